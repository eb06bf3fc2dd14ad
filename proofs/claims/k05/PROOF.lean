import PyProof.Rows.All
import Wide.All
import OpenK.AllK
import Wide.FinOn
import HandS.ForMost
import HandS.Flow
import HandS.Exc
import HandS.ExcOwn
import HandS.Lambda
import HandS.TupAny
import HandS.TupMul
import KE.KxMul
import HandS.Style
import HandS.Deep
import HandS.IsInst
import HandS.More
import KE.KDictPairs
import HandS.TryOnly
import KE.KExcSuper
import HandS.ExcInit
import HandS.ExcIs
import HandS.ExcField
import HandS.TryMany
import KE.KExcIs
import KE.GoesEnum
import HandS.Conv
import PySem.Challenge.RW_alloftype_k05_whole_what_is_no_program
set_option Elab.async false
set_option linter.all false
set_option maxRecDepth 100000
set_option maxHeartbeats 4000000
/-! Den1: a small language over plain data, its evaluator -/
namespace Dn
open PySem

/-- what a slot holds: nothing; data that never changes; a list that this slot alone holds -/
structure Exc where
  cls : Nat
  fld : PyData
/-- .. an exception that was caught; a lambda that was handed in -/
inductive Slot where
  | un | val (d : PyData) | own (d : PyData) | exc (x : Exc) | clo
abbrev Env := List Slot
/-- an expression's raw value: data; a new list that nobody holds; the list that a slot holds -/
inductive EV where
  | val (d : PyData) | fr (d : PyData) | al (i : Nat)
/-- read: data or a slot -/
inductive RV where
  | dat (d : PyData) | al (i : Nat)
inductive Res (α : Type) where
  | ok (a : α) (ρ : Env) | exc (x : Exc) (ρ : Env) | stuck
def Res.bind {α β : Type} (r : Res α) (f : α → Env → Res β) : Res β := match r with
  | .ok a ρ => f a ρ
  | .exc x ρ => .exc x ρ
  | .stuck => .stuck
@[simp] theorem Res.bind_ok {α β : Type} (a : α) (ρ : Env) (f : α → Env → Res β) : (Res.ok a ρ).bind f = f a ρ := rfl
@[simp] theorem Res.bind_exc {α β : Type} (x : Exc) (ρ : Env) (f : α → Env → Res β) : (Res.exc x ρ).bind f = .exc x ρ := rfl
/-- nothing may be raised here -/
def Res.nox {α : Type} (r : Res α) : Res α := match r with
  | .exc _ _ => .stuck
  | r => r
@[simp] theorem Res.nox_ok {α : Type} (a : α) (ρ : Env) : (Res.ok a ρ).nox = .ok a ρ := rfl
@[simp] theorem Res.nox_exc {α : Type} (x : Exc) (ρ : Env) : (Res.exc x ρ : Res α).nox = .stuck := rfl
@[simp] theorem Res.nox_stuck {α : Type} : (Res.stuck : Res α).nox = .stuck := rfl
@[simp] theorem Res.bind_stuck {α β : Type} (f : α → Env → Res β) : (Res.stuck : Res α).bind f = .stuck := rfl
def on {α β : Type} (o : Option α) (f : α → Res β) : Res β := match o with
  | some a => f a
  | none => .stuck
@[simp] theorem on_some {α β : Type} (a : α) (f : α → Res β) : on (some a) f = f a := rfl
@[simp] theorem on_none {α β : Type} (f : α → Res β) : on none f = .stuck := rfl
/-- a call: its value (data or new), the parameters' slots at the end -/
inductive CRes where
  | ok (e : EV) (outs : List Slot) | exc (x : Exc) (outs : List Slot) | stuck
abbrev Calls := Nat → List Slot → CRes
/-- what stands around: which parameters are handed in by reference, the defs, a def called with a lambda, a lambda's body, what the lambda at hand gives -/
structure En where
  modes : Nat → List Bool
  call : Calls
  lam : Nat → CRes → CRes
  thunk : Nat → List Slot → CRes
  act : CRes
  low : Calls
  deep : Bool

def slotD : Slot → Option PyData
  | .val d => some d
  | .own d => some d
  | _ => none
def deref (ρ : Env) : RV → Option PyData
  | .dat d => some d
  | .al i => (ρ[i]?).bind slotD
/-- raw to read: a new list is locked at once -/
def toR : EV → RV
  | .val d => .dat d
  | .fr d => .dat d
  | .al i => .al i
/-- raw to data: a slot's list is locked -/
def settle (e : EV) (ρ : Env) : Res PyData := match e with
  | .val d => .ok d ρ
  | .fr d => .ok d ρ
  | .al i => match ρ[i]? with
    | some (.val d) => .ok d ρ
    | some (.own d) => .ok d (ρ.set i (.val d))
    | _ => .stuck

inductive BOp where
  | add | sub | mul | fdiv | mod | pow
  deriving DecidableEq
inductive COp where
  | eq | ne | lt | le | gt | ge | isin | notin | is | isnot
  deriving DecidableEq
inductive Ty where
  | int | str | bool | tuple | list | dict
  deriving DecidableEq
inductive Blt where
  | dict | len | abs | int | tuple | list | all | any | repr | sum | max | min | sorted | str
  deriving DecidableEq
inductive Tg where
  | n (i : Nat) | t (is : List Nat)
mutual
inductive ME where
  | c (d : PyData)
  | v (i : Nat)
  | tup (es : List ME) | lst (es : List ME)
  | bin (o : BOp) (a b : ME)
  | neg (a : ME)
  | cmp (o : COp) (a b : ME)
  | chain (o o' : COp) (a b c : ME)
  | and (a b : ME) | or (a b : ME) | not (a : ME)
  | ite (c a b : ME)
  | idx (a i : ME)
  | sl (a : ME) (lo hi : MP)
  | rev (a : ME)
  | isi (a : ME) (ts : List Ty)
  | call (f : Nat) (es : List ME)
  | blt (b : Blt) (es : List ME)
  | dnew
  | get1 (a k : ME) | get2 (a k e : ME)
  | lc (ws : List Nat) (tg : Tg) (it : MI) (conds : List ME) (elt : ME)
  | pop (i : Nat) | popAt (i : Nat) (e : ME)
  | act | lam (f : Nat) (ls : List Nat) (g : Nat)
  | count (a e : ME) | index (a e : ME)
  | isx (i : Nat) (c : Nat) | isb (i : Nat) | fldx (i : Nat) (c : Nat)
  | wish (nm : Str) (w b : Nat) (a e : ME) | attr (nm f : Str) (a : ME) | isw (nm : Str) (a : ME) | eqw (nm : Str) (f : Nat) (neg : Bool) (a b : ME) | lrg (a : ME)
inductive MP where
  | non | ex (e : ME)
inductive MI where
  | ex (e : ME) | vals (e : ME) | items (e : ME) | range1 (e : ME) | range2 (a b : ME) | range3 (a b c : ME) | enum (e : ME) | zip (a b : ME)
end
inductive MS where
  | expr (e : ME)
  | set (i : Nat) (e : ME)
  | unpack (is : List Nat) (e : ME)
  | par (i j : Nat) (a b : ME)
  | aug (i : Nat) (o : BOp) (e : ME)
  | put (i : Nat) (k e : ME)
  | putD (i : Nat) (k e : ME)
  | app (i : Nat) (e : ME) | ext (i : Nat) (e : ME)
  | ret (e : ME)
  | ite (c : ME) (a b : List MS)
  | while (c : ME) (b : List MS)
  | for (tg : Tg) (it : MI) (b : List MS)
  | pass | brk | cont
  | raise0 (c : Nat) | raise1 (c : Nat) (e : ME)
  | tryAs (b : List MS) (c : Option Nat) (i : Nat) (h : List MS)
  | tryOnly (b : List MS) (c : Option Nat) (h : List MS)

/-! ### operations on data -/
def szl : Nat := 16777216
def truthy : PyData → Option Bool
  | .none => some false
  | .bool b => some b
  | .int i => some (i != 0)
  | .str x => if x.length ≤ szl then some ((x.length : Int) != 0) else none
  | .list l => some (!l.isEmpty)
  | .tuple l => some (!l.isEmpty)
  | .dict _ => none
/-- a dict's keys: whole numbers and texts -/
def keyD : L2.Key → PyData
  | .inl i => .int i
  | .inr x => .str x
def keyOf : PyData → Option L2.Key
  | .int i => some (.inl i)
  | .str x => some (.inr x)
  | _ => none
def isKey (k : L2.Key) (d : PyData) : Bool := match keyOf d with
  | some j => decide (j = k)
  | none => false
def findK (k : L2.Key) : List (PyData × PyData) → Option PyData
  | [] => none
  | (a, b) :: r => if isKey k a = true then some b else findK k r
def putKD (k : L2.Key) (d : PyData) (kvs : List (PyData × PyData)) : List (PyData × PyData) := if (findK k kvs).isSome = true then kvs.map fun p => if isKey k p.1 = true then (p.1, d) else p else kvs ++ [(keyD k, d)]
/-- an instance: laid as a dict, its class's name under the key None -/
def isIns : List (PyData × PyData) → Bool
  | (.none, _) :: _ => true
  | _ => false
def dictOf : PyData → Option (List (PyData × PyData))
  | .dict kvs => if isIns kvs = true then none else some kvs
  | _ => none
/-- pairs (key, value) laid into a dict, one after another -/
def layKD : List (PyData × PyData) → List PyData → Option (List (PyData × PyData))
  | acc, [] => some acc
  | acc, .tuple [k, d] :: r => (keyOf k).bind fun k => layKD (putKD k d acc) r
  | _, _ => none
/-- can these be laid into a dict -/
def isLib (l : List PyData) : Bool := (layKD [] l).isSome
def binD : BOp → PyData → PyData → Option EV
  | .add, .int a, .int b => some (.val (.int (a + b)))
  | .add, .str a, .str b => if a.length + b.length ≤ szl then some (.val (.str (a ++ b))) else none
  | .add, .list a, .list b => if a.length + b.length ≤ szl then some (.fr (.list (a ++ b))) else none
  | .add, .tuple a, .tuple b => if a.length + b.length ≤ szl then some (.val (.tuple (a ++ b))) else none
  | .sub, .int a, .int b => some (.val (.int (a - b)))
  | .mul, .int a, .int b => if (-(2 ^ 64) < a ∧ a < 2 ^ 64) ∨ (-(2 ^ 64) < b ∧ b < 2 ^ 64) then some (.val (.int (a * b))) else none
  | .mul, .list a, .int k => if 0 ≤ k ∧ k < 2 ^ 62 ∧ a.length * k.toNat ≤ szl then some (.fr (.list (List.replicate k.toNat a).flatten)) else none
  | .mul, .tuple a, .int k => if a ≠ [] ∧ 2 ≤ k ∧ k ≤ 1000 ∧ a.length ≤ 1000 then some (.val (.tuple (List.replicate k.toNat a).flatten)) else none
  | .fdiv, .int a, .int b => if 0 < b ∧ b < 1073741824 then some (.val (.int (a / b))) else none
  | .mod, .int a, .int b => if 0 < b then some (.val (.int (a % b))) else none
  | .pow, .int a, .int b => if 0 ≤ b ∧ b ≤ 1000000 ∧ a.natAbs < 2 ^ 64 then some (.val (.int (a ^ b.toNat))) else none
  | _, _, _ => none
def flatD : PyData → Bool
  | .none => true | .bool _ => true | .int _ => true | .str _ => true
  | _ => false
def eqT : PyData → PyData → Option Bool
  | .str x, .str y => some (x == y)
  | _, _ => none
def eqD (a b : PyData) : Option Bool := match eqT a b with
  | some r => some r
  | none => if a.canLay0 = true ∧ b.canLay0 = true ∧ min a.depth b.depth ≤ 64 then some (PyData.eqv a b) else none
def inStr (i j : Str) : Bool := !(Builtin.Str.occurrences j i 0 j.length 1).isEmpty
def inD (a : PyData) : PyData → Option Bool
  | .str j => match a with
    | .str i => some (inStr i j)
    | _ => none
  | .list l => if SeqAt.shaped a = true ∧ SeqAt.shaped (.list l) = true then some (l.any fun y => PyData.eqv y a) else none
  | .tuple l => if flatD a = true ∧ l.all flatD = true then some (l.any fun y => PyData.eqv y a) else none
  | .dict kvs => if isIns kvs = true then none else (keyOf a).map fun k => (findK k kvs).isSome
  | _ => none
def isNone : PyData → Bool
  | .none => true
  | _ => false
def isD (a : PyData) : PyData → Option Bool
  | .none => some (isNone a)
  | .bool c => match a with
    | .bool b => some (b == c)
    | _ => none
  | _ => none
def cmpD : COp → PyData → PyData → Option Bool
  | .eq, a, b => eqD a b
  | .ne, a, b => (eqD a b).map (!·)
  | .lt, .int a, .int b => some (decide (a < b))
  | .le, .int a, .int b => some (decide (a ≤ b))
  | .gt, .int a, .int b => some (decide (b < a))
  | .ge, .int a, .int b => some (decide (b ≤ a))
  | .isin, a, b => inD a b
  | .notin, a, b => (inD a b).map (!·)
  | .is, a, b => isD a b
  | .isnot, a, b => (isD a b).map (!·)
  | _, _, _ => none
def isTy : PyData → Ty → Bool
  | .int _, .int => true
  | .bool _, .int => true
  | .bool _, .bool => true
  | .str _, .str => true
  | .tuple _, .tuple => true
  | .list _, .list => true
  | .dict kvs, .dict => !isIns kvs
  | _, _ => false
def idxD : PyData → PyData → Option PyData
  | .list l, .int i => L2.atI l i
  | .tuple l, .int i => L2.atI l i
  | .dict kvs, d => if isIns kvs = true then none else (keyOf d).bind fun k => findK k kvs
  | .str x, .int i => if x.length ≤ szl then (L2.atI x.cps.toList i).map fun c => .str ⟨#[c]⟩ else none
  | _, _ => none
def cutL {α : Type} (xs : List α) (lo hi : Option Int) : List α := (xs.drop (HT.sIx xs.length 0 lo)).take (HT.sIx xs.length xs.length hi - HT.sIx xs.length 0 lo)
def slD (a : PyData) (lo hi : Option Int) : Option EV := match a with
  | .list l => some (.fr (.list (cutL l lo hi)))
  | .tuple l => some (.val (.tuple (cutL l lo hi)))
  | .str x => if x.length ≤ szl then some (.val (.str ⟨(cutL x.cps.toList lo hi).toArray⟩)) else none
  | _ => none
def revD : PyData → Option EV
  | .list l => some (.fr (.list l.reverse))
  | .tuple l => some (.val (.tuple l.reverse))
  | _ => none
def boolsOf : List PyData → Option (List Bool)
  | [] => some []
  | .bool b :: r => (boolsOf r).map (b :: ·)
  | _ => none
def intsOf : List PyData → Option (List Int)
  | [] => some []
  | .int i :: r => (intsOf r).map (i :: ·)
  | _ => none
/-- the least, the greatest -/
def minI : List Int → Option Int
  | [] => none
  | i :: r => some (r.foldl (fun a b => if b < a then b else a) i)
def maxI : List Int → Option Int
  | [] => none
  | i :: r => some (r.foldl (fun a b => if b > a then b else a) i)
/-- texts in order -/
def leS (a b : Str) : Bool := !Spec.ltCps b.cps.toList a.cps.toList
def sortS (l : List Str) : List Str := l.mergeSort leS
def strsOf : List PyData → Option (List Str)
  | [] => some []
  | .str x :: r => (strsOf r).map (x :: ·)
  | _ => none
def sortSD (l : List PyData) : Option EV := (strsOf l).bind fun xs => if xs.length < 64 then some (.fr (.list ((sortS xs).map .str))) else none
mutual
/-- its dicts are empty -/
def noDs : PyData → Bool
  | .list l => noDsA l
  | .tuple l => noDsA l
  | .dict l => l.isEmpty
  | .none => true
  | .bool _ => true
  | .int _ => true
  | .str _ => true
def noDsA : List PyData → Bool
  | [] => true
  | d :: l => noDs d && noDsA l
end
def bltD : Blt → List PyData → Option EV
  | .len, [.str x] => if x.length ≤ szl then some (.val (.int x.length)) else none
  | .len, [.list l] => some (.val (.int l.length))
  | .len, [.tuple l] => some (.val (.int l.length))
  | .sorted, [.list l] => sortSD l
  | .sorted, [.dict l] => if isIns l = true then none else sortSD (l.map (·.1))
  | .len, [.dict l] => if isIns l = true then none else some (.val (.int l.length))
  | .dict, [.list l] => (layKD [] l).map fun kvs => .fr (.dict kvs)
  | .dict, [.tuple l] => (layKD [] l).map fun kvs => .fr (.dict kvs)
  | .dict, [.dict kvs] => if isIns kvs = true then none else some (.fr (.dict kvs))
  | .abs, [.int i] => some (.val (.int (if i < 0 then -i else i)))
  | .int, [.int i] => some (.val (.int i))
  | .int, [.bool b] => some (.val (.int (if b then 1 else 0)))
  | .tuple, [.list l] => some (.val (.tuple l))
  | .tuple, [.tuple l] => some (.val (.tuple l))
  | .list, [.list l] => some (.fr (.list l))
  | .list, [.tuple l] => some (.fr (.list l))
  | .all, [.list l] => (boolsOf l).map fun bs => .val (.bool (bs.all id))
  | .any, [.list l] => (boolsOf l).map fun bs => .val (.bool (bs.any id))
  | .max, [.int i, .int j] => some (.val (.int (if j > i then j else i)))
  | .min, [.int i, .int j] => some (.val (.int (if j < i then j else i)))
  | .max, [.list l] => ((intsOf l).bind maxI).map fun i => .val (.int i)
  | .min, [.list l] => ((intsOf l).bind minI).map fun i => .val (.int i)
  | .sum, [.list l] => (intsOf l).map fun ns => .val (.int ns.sum)
  | .repr, [d] => if d.showable = true ∧ noDs d = true ∧ d.shown.length ≤ szl ∧ d.depth ≤ 96 then some (.val (.str d.shown)) else none
  | _, _ => none

/-! ### evaluation -/
def ofO {α : Type} (o : Option α) (ρ : Env) : Res α := match o with
  | some a => .ok a ρ
  | none => .stuck
def wipeS (ws : List Nat) (ρ : Env) : Env := match ws with
  | [] => ρ
  | w :: r => (wipeS r ρ).set w .un
/-- the slots at ws as they were in ρ -/
def restore (ws : List Nat) (ρ ρ' : Env) : Env := match ws with
  | [] => ρ'
  | w :: r => (restore r ρ ρ').set w ((ρ[w]?).getD .un)
def setAll : List Nat → List PyData → Env → Option Env
  | [], [], ρ => some ρ
  | i :: is, d :: ds, ρ => setAll is ds (ρ.set i (.val d))
  | _, _, _ => none
/-- is the slot free to be set: no parameter that is handed in as a slot -/
def free (md : List Bool) (i : Nat) : Bool := (md[i]?).getD false == false
def assignT (md : List Bool) (tg : Tg) (d : PyData) (ρ : Env) : Option Env := match tg with
  | .n i => if free md i = true then some (ρ.set i (.val d)) else none
  | .t is => if is.all (free md) = true then match d with
    | .tuple ds => setAll is ds ρ
    | .list ds => setAll is ds ρ
    | _ => none
    else none
/-- the items of what is walked -/
def itemsD : PyData → Option (List PyData)
  | .list l => some l
  | .tuple l => some l
  | .str x => some (x.cps.toList.map fun c => .str ⟨#[c]⟩)
  | .dict kvs => if isIns kvs = true then none else some (kvs.map (·.1))
  | _ => none
def small (i : Int) : Bool := decide (-(2 ^ 62) ≤ i ∧ i < 2 ^ 62)
def rangeD (lo hi : Int) : Option (List PyData) := if small lo = true ∧ small hi = true then some ((List.range (hi - lo).toNat).map fun (j : Nat) => PyData.int (lo + (j : Int))) else none

def rangeD3 (lo hi c : Int) : Option (List PyData) := if (c ≠ 0 ∧ c.natAbs < 1073741824 ∧ Builtin.Range.small lo hi c = true) ∧ 0 ≤ Builtin.Range.rangeSize lo hi c then some ((List.range (Builtin.Range.rangeSize lo hi c).toNat).map fun (j : Nat) => PyData.int (lo + (j : Int) * c)) else none
def isListD : PyData → Bool
  | .list _ => true
  | _ => false
/-- l.count(x), l.index(x) -/
def countD (d : PyData) : PyData → Option PyData
  | .list l => if SeqAt.shaped (.list l) = true ∧ SeqAt.shaped d = true then some (.int (l.countP fun y => PyData.eqv y d : Nat)) else none
  | _ => none
def indexD (d : PyData) : PyData → Option PyData
  | .list l => if SeqAt.shaped (.list l) = true ∧ SeqAt.shaped d = true then (l.findIdx? fun y => PyData.eqv y d).map fun j => .int (j : Nat) else none
  | _ => none
def isOwnD (ρ : Env) (i : Nat) : Bool := match ρ[i]? with
  | some (.own (.dict _)) => true
  | _ => false
def isOwn (ρ : Env) (i : Nat) : Bool := match ρ[i]? with
  | some (.own (.list _)) => true
  | _ => false
/-- how arguments are handed in: data, or the slot's list -/
inductive AV where
  | dat (d : PyData) | sl (i : Nat)
def asArg (m : Bool) (x : EV) (ρ : Env) : Res AV := match m, x with
  | true, .al i => .ok (.sl i) ρ
  | _, _ => (settle x ρ).bind fun d ρ => .ok (.dat d) ρ
def argSlots (ρ : Env) : List AV → Option (List Slot)
  | [] => some []
  | .dat d :: r => (argSlots ρ r).map (.val d :: ·)
  | .sl i :: r => match ρ[i]? with
    | some (.own d) => if (r.any fun a => match a with | .sl j => i == j | _ => false) = true then none else (argSlots ρ r).map (.own d :: ·)
    | some (.val d) => (argSlots ρ r).map (.val d :: ·)
    | _ => none
/-- behind a call: the slots that were handed in -/
def putBack : List AV → List Slot → Env → Env
  | .sl i :: r, s :: ss, ρ => putBack r ss (match ρ[i]? with | some (.own _) => ρ.set i s | _ => ρ)
  | _ :: r, _ :: ss, ρ => putBack r ss ρ
  | _, _, ρ => ρ

/-- slots' lists are locked -/
def lockAll : List Nat → Env → Env
  | [], ρ => ρ
  | i :: is, ρ => lockAll is (match ρ[i]? with
    | some (.own d) => ρ.set i (.val d)
    | _ => ρ)
def valS : Slot → Slot
  | .val d => .val d
  | _ => .un
/-- what a lambda sees: data alone -/
def valsOf (ρ : Env) : Env := ρ.map valS
/-- what a library's pairs are laid into -/
def libOf : PyData → Option (List (PyData × PyData))
  | .tuple l => layKD [] l
  | _ => none
/-- an instance of three fields -/
def insD (nm : Str) (dl dk : PyData) (kvs : List (PyData × PyData)) : PyData := .dict [(.none, .str nm), (.str "library", dl), (.str "kind", dk), (.str "kinds", .dict kvs)]
/-- .. from what was said of its parts -/
def wishR (nm : Str) (b : Nat) (dl dk : PyData) (ρ : Env) : CRes → Res EV
  | .ok (.val d) _ => if isNone d = true then on (libOf dl) fun kvs => .ok (.val (insD nm dl dk kvs)) ρ else .exc ⟨b, d⟩ ρ
  | .exc x _ => .exc x ρ
  | _ => .stuck
/-- a field of an instance of the class nm -/
def fieldOf (nm f : Str) : PyData → Option PyData
  | .dict ((.none, .str n) :: kvs) => if n = nm then findK (.inr f) kvs else none
  | _ => none
/-- is it an instance of the class nm -/
def iswD (nm : Str) : PyData → Option Bool
  | .dict ((.none, .str n) :: _) => if n = nm then some true else none
  | _ => some false
/-- x == y, x != y from what the class's own def says -/
def eqwR (nm : Str) (neg : Bool) (x y : PyData) (ρ : Env) : CRes → Res EV
  | .ok (.val (.bool c)) _ => if iswD nm x = some true ∧ (iswD nm y).isSome = true then .ok (.val (.bool (c != neg))) ρ else .stuck
  | _ => .stuck
/-- list(range(n)) -/
def lrgR (ρ : Env) : PyData → Res EV
  | .int n => if -(2 ^ 62) ≤ n ∧ n ≤ 16777216 then .ok (.fr (.list ((List.range n.toNat).map fun (j : Nat) => PyData.int (j : Int)))) ρ else .stuck
  | _ => .stuck
/-- a comprehension's turns -/
def compL (as : PyData → Env → Res Bool) (elt : Env → Res PyData) (wp : Env → Env) : List PyData → List PyData → Env → Res (List PyData)
  | [], acc, ρ => .ok acc ρ
  | d :: ds, acc, ρ => (as d ρ).bind fun b ρ => if b = true then (elt ρ).bind fun y ρ => if acc.length < szl then compL as elt wp ds (acc ++ [y]) (wp ρ) else .stuck
    else compL as elt wp ds acc (wp ρ)

section
variable (md : List Bool) (en : En)
mutual
/-- raw -/
def evalE : ME → Env → Res EV
  | .c d, ρ => .ok (.val d) ρ
  | .v i, ρ => match ρ[i]? with
    | some (.val d) => .ok (.val d) ρ
    | some (.own _) => .ok (.al i) ρ
    | _ => .stuck
  | .tup es, ρ => (evalVs es ρ).bind fun ds ρ => if ds.length ≤ szl then .ok (.val (.tuple ds)) ρ else .stuck
  | .dnew, ρ => .ok (.fr (.dict [])) ρ
  | .get1 a k, ρ => (evalE a ρ).bind fun x ρ => if ((deref ρ (toR x)).bind dictOf).isSome = true then ((evalE k ρ).bind settle).bind fun y ρ => on ((deref ρ (toR x)).bind dictOf) fun kvs => on (keyOf y) fun k => .ok (.val ((findK k kvs).getD .none)) ρ else .stuck
  | .get2 a k e, ρ => (evalE a ρ).bind fun x ρ => if ((deref ρ (toR x)).bind dictOf).isSome = true then ((evalE k ρ).bind settle).bind fun y ρ => ((evalE e ρ).bind settle).bind fun z ρ => on ((deref ρ (toR x)).bind dictOf) fun kvs => on (keyOf y) fun k => .ok (.val ((findK k kvs).getD z)) ρ else .stuck
  | .lst es, ρ => (evalVs es ρ).bind fun ds ρ => if ds.length ≤ szl then .ok (.fr (.list ds)) ρ else .stuck
  | .bin o a b, ρ => (evalE a ρ).bind fun x ρ => (evalE b ρ).bind fun y ρ => on (deref ρ (toR x)) fun x => on (deref ρ (toR y)) fun y => ofO (binD o x y) ρ
  | .neg a, ρ => (evalE a ρ).bind fun x ρ => match x with
    | .val (.int i) => .ok (.val (.int (-i))) ρ
    | _ => .stuck
  | .cmp o a b, ρ => (evalE a ρ).bind fun x ρ => (evalE b ρ).bind fun y ρ => on (deref ρ (toR x)) fun x => on (deref ρ (toR y)) fun y => on (cmpD o x y) fun b => .ok (.val (.bool b)) ρ
  | .chain o o' a b c, ρ => (evalE a ρ).bind fun x ρ => (evalE b ρ).bind fun y ρ => on (deref ρ (toR x)) fun x' => on (deref ρ (toR y)) fun y' => on (cmpD o x' y') fun k => if k = true then
      (evalE c ρ).bind fun z ρ => on (deref ρ (toR y)) fun y => on (deref ρ (toR z)) fun z => on (cmpD o' y z) fun b => .ok (.val (.bool b)) ρ
      else .ok (.val (.bool false)) ρ
  | .and a b, ρ => (evalE a ρ).bind fun x ρ => on ((deref ρ (toR x)).bind truthy) fun k => if k = true then evalE b ρ else .ok x ρ
  | .or a b, ρ => (evalE a ρ).bind fun x ρ => on ((deref ρ (toR x)).bind truthy) fun k => if k = true then .ok x ρ else evalE b ρ
  | .not a, ρ => (evalE a ρ).bind fun x ρ => on ((deref ρ (toR x)).bind truthy) fun k => .ok (.val (.bool (!k))) ρ
  | .ite c a b, ρ => (evalE c ρ).bind fun x ρ => on ((deref ρ (toR x)).bind truthy) fun k => if k = true then evalE a ρ else evalE b ρ
  | .idx a i, ρ => (evalE a ρ).bind fun x ρ => (evalE i ρ).bind fun y ρ => on (deref ρ (toR x)) fun x => on (deref ρ (toR y)) fun y => on (idxD x y) fun d => .ok (.val d) ρ
  | .sl a lo hi, ρ => (evalE a ρ).bind fun x ρ => (evalP lo ρ).bind fun l ρ => (evalP hi ρ).bind fun h ρ => on (deref ρ (toR x)) fun x => ofO (slD x l h) ρ
  | .rev a, ρ => (evalE a ρ).bind fun x ρ => on (deref ρ (toR x)) fun x => ofO (revD x) ρ
  | .isi a ts, ρ => (evalE a ρ).bind fun x ρ => on (deref ρ (toR x)) fun x => .ok (.val (.bool (ts.any (isTy x)))) ρ
  | .call f es, ρ => (evalAs (en.modes f) es ρ).bind fun as ρ => on (argSlots ρ as) fun ss => match en.call f ss with
      | .ok (.al _) _ => .stuck
      | .ok e outs => .ok e (putBack as outs ρ)
      | .exc x outs => .exc x (putBack as outs ρ)
      | .stuck => .stuck
  | .blt b es, ρ => (evalRs es ρ).bind fun xs ρ => on (xs.mapM (deref ρ)) fun ds => ofO (bltD b ds) ρ
  | .lc ws tg it conds elt, ρ => (evalI it ρ).bind fun ds ρ => if ws.all (free md) = true then
      (compL (fun d ρ => on (assignT md tg d ρ) fun ρ => evalCs conds ρ) (fun ρ => (evalE elt ρ).bind settle) (wipeS ws) ds [] (wipeS ws ρ)).nox.bind fun l ρ' => .ok (.fr (.list l)) (restore ws ρ ρ')
      else .stuck
  | .count a e, ρ => (evalE a ρ).bind fun x ρ => if ((deref ρ (toR x)).map isListD) = some true then ((evalE e ρ).bind settle).bind fun y ρ => on (deref ρ (toR x)) fun l => on (countD y l) fun d => .ok (.val d) ρ else .stuck
  | .index a e, ρ => (evalE a ρ).bind fun x ρ => if ((deref ρ (toR x)).map isListD) = some true then ((evalE e ρ).bind settle).bind fun y ρ => on (deref ρ (toR x)) fun l => on (indexD y l) fun d => .ok (.val d) ρ else .stuck
  | .pop i, ρ => match ρ[i]? with
    | some (.own (.list l)) => on l.getLast? fun d => .ok (.val d) (ρ.set i (.own (.list l.dropLast)))
    | _ => .stuck
  | .popAt i e, ρ => if isOwn ρ i = true then ((evalE e ρ).bind settle).bind fun k ρ => match k, ρ[i]? with
    | .int k, some (.own (.list l)) => if -(2 ^ 63) ≤ k ∧ k < 2 ^ 63 then on (L2.ixN l.length k) fun j => on l[j]? fun d => .ok (.val d) (ρ.set i (.own (.list (l.eraseIdx j)))) else .stuck
    | _, _ => .stuck
    else .stuck
  | .act, ρ => match (ρ[0]? : Option Slot) with
    | some Slot.clo => match en.act with
      | .ok (.al _) _ => .stuck
      | .ok e _ => .ok e ρ
      | .exc x _ => .exc x ρ
      | .stuck => .stuck
    | _ => .stuck
  | .lam f ls g, ρ => match en.lam f (en.thunk g (valsOf (lockAll ls ρ))) with
    | .ok (.al _) _ => .stuck
    | .ok e _ => .ok e (lockAll ls ρ)
    | .exc _ _ => .stuck
    | .stuck => .stuck
  | .isx i c, ρ => match ρ[i]? with
    | some (.exc x) => .ok (.val (.bool (x.cls == c))) ρ
    | _ => .stuck
  | .isb i, ρ => match ρ[i]? with
    | some (.exc _) => .ok (.val (.bool true)) ρ
    | _ => .stuck
  | .wish nm w b a e, ρ => if en.deep = true then ((evalE a ρ).bind settle).bind fun dl ρ => ((evalE e ρ).bind settle).bind fun dk ρ => wishR nm b dl dk ρ (en.low w [.val dl, .val dk]) else .stuck
  | .lrg a, ρ => ((evalE a ρ).bind settle).bind fun d ρ => lrgR ρ d
  | .eqw nm f neg a b, ρ => if en.deep = true then ((evalE a ρ).bind settle).bind fun x ρ => ((evalE b ρ).bind settle).bind fun y ρ => eqwR nm neg x y ρ (en.low f [.val x, .val y]) else .stuck
  | .isw nm a, ρ => (evalE a ρ).bind fun x ρ => on (deref ρ (toR x)) fun x => on (iswD nm x) fun b => .ok (.val (.bool b)) ρ
  | .attr nm f a, ρ => (evalE a ρ).bind fun x ρ => on (deref ρ (toR x)) fun x => on (fieldOf nm f x) fun d => .ok (.val d) ρ
  | .fldx i c, ρ => match ρ[i]? with
    | some (.exc x) => if x.cls = c then .ok (.val x.fld) ρ else .stuck
    | _ => .stuck
/-- a slice's part -/
def evalP : MP → Env → Res (Option Int)
  | .non, ρ => .ok none ρ
  | .ex e, ρ => ((evalE e ρ).bind settle).bind fun d ρ => match d with
    | .int i => .ok (some i) ρ
    | _ => .stuck
/-- data, one after another -/
def evalVs : List ME → Env → Res (List PyData)
  | [], ρ => .ok [] ρ
  | e :: es, ρ => ((evalE e ρ).bind settle).bind fun d ρ => (evalVs es ρ).bind fun ds ρ => .ok (d :: ds) ρ
/-- read -/
def evalRs : List ME → Env → Res (List RV)
  | [], ρ => .ok [] ρ
  | e :: es, ρ => (evalE e ρ).bind fun x ρ => (evalRs es ρ).bind fun xs ρ => .ok (toR x :: xs) ρ
/-- arguments by the modes (true: a name's list is handed in as it is) -/
def evalAs (ms : List Bool) : List ME → Env → Res (List AV)
  | [], ρ => .ok [] ρ
  | e :: es, ρ => ((evalE e ρ).bind (asArg (ms.head?.getD false))).bind fun a ρ => (evalAs ms.tail es ρ).bind fun r ρ => .ok (a :: r) ρ
/-- all tests -/
def evalCs : List ME → Env → Res Bool
  | [], ρ => .ok true ρ
  | e :: es, ρ => (evalE e ρ).bind fun x ρ => on ((deref ρ (toR x)).bind truthy) fun k => if k = true then evalCs es ρ else .ok false ρ
/-- what is walked -/
def evalI : MI → Env → Res (List PyData)
  | .ex e, ρ => ((evalE e ρ).bind settle).bind fun d ρ => ofO (itemsD d) ρ
  | .vals e, ρ => ((evalE e ρ).bind settle).bind fun d ρ => on (dictOf d) fun kvs => .ok (kvs.map (·.2)) ρ
  | .items e, ρ => ((evalE e ρ).bind settle).bind fun d ρ => on (dictOf d) fun kvs => .ok (kvs.map fun p => .tuple [p.1, p.2]) ρ
  | .range1 e, ρ => ((evalE e ρ).bind settle).bind fun d ρ => match d with
    | .int i => ofO (rangeD 0 i) ρ
    | _ => .stuck
  | .range2 a b, ρ => ((evalE a ρ).bind settle).bind fun d ρ => ((evalE b ρ).bind settle).bind fun d' ρ => match d, d' with
    | .int i, .int j => ofO (rangeD i j) ρ
    | _, _ => .stuck
  | .range3 a b c, ρ => ((evalE a ρ).bind settle).bind fun d ρ => ((evalE b ρ).bind settle).bind fun d' ρ => ((evalE c ρ).bind settle).bind fun d'' ρ => match d, d', d'' with
    | .int i, .int j, .int k => ofO (rangeD3 i j k) ρ
    | _, _, _ => .stuck
  | .enum e, ρ => ((evalE e ρ).bind settle).bind fun d ρ => match d with
    | .list l => .ok (l.zipIdx.map fun (d, j) => .tuple [.int j, d]) ρ
    | .tuple l => .ok (l.zipIdx.map fun (d, j) => .tuple [.int j, d]) ρ
    | _ => .stuck
  | .zip a b, ρ => ((evalE a ρ).bind settle).bind fun d ρ => ((evalE b ρ).bind settle).bind fun d' ρ => match d, d' with
    | .list l, .list l' => if ((l.zip l').all fun (d, d') => !isLib [d, d']) = true then .ok ((l.zip l').map fun (d, d') => .tuple [d, d']) ρ else .stuck
    | _, _ => .stuck
end
end

inductive Fl where
  | nx | brk | cnt | ret (e : EV)
/-- a slot's list does not wait: it is locked -/
def still (e : EV) (ρ : Env) : Res EV := match e with
  | .al i => (settle (.al i) ρ).bind fun d ρ => .ok (.val d) ρ
  | .val d => .ok (.val d) ρ
  | .fr d => .ok (.fr d) ρ
/-- into a slot: a new list is this slot's own -/
def putS (i : Nat) (e : EV) (ρ : Env) : Res Unit := match e with
  | .val d => .ok () (ρ.set i (.val d))
  | .fr d => .ok () (ρ.set i (.own d))
  | .al _ => .stuck
/-- name op= value, of ints and texts -/
def augD : BOp → PyData → PyData → Option PyData
  | .add, .int a, .int b => some (.int (a + b))
  | .add, .str a, .str b => if a.length + b.length ≤ szl then some (.str (a ++ b)) else none
  | .sub, .int a, .int b => some (.int (a - b))
  | .mul, .int a, .int b => if (-(2 ^ 64) < a ∧ a < 2 ^ 64) ∨ (-(2 ^ 64) < b ∧ b < 2 ^ 64) then some (.int (a * b)) else none
  | .fdiv, .int a, .int b => if 0 < b ∧ b < 1073741824 then some (.int (a / b)) else none
  | .mod, .int a, .int b => if 0 < b then some (.int (a % b)) else none
  | _, _, _ => none
/-- a for's turns -/
def forL (as : PyData → Env → Option Env) (body : Env → Res Fl) : List PyData → Env → Res Fl
  | [], ρ => .ok .nx ρ
  | d :: ds, ρ => on (as d ρ) fun ρ => (body ρ).bind fun f ρ => match f with
      | .nx => forL as body ds ρ
      | .cnt => forL as body ds ρ
      | .brk => .ok .nx ρ
      | .ret e => .ok (.ret e) ρ
/-- a while's turns, at most n -/
def whileL (test : Env → Res Bool) (body : Env → Res Fl) : Nat → Env → Res Fl
  | 0, _ => .stuck
  | n + 1, ρ => (test ρ).bind fun b ρ => if b = true then (body ρ).bind fun f ρ => match f with
      | .nx => whileL test body n ρ
      | .cnt => whileL test body n ρ
      | .brk => .ok .nx ρ
      | .ret e => .ok (.ret e) ρ
    else .ok .nx ρ
def unX : Slot → Slot
  | .exc _ => .un
  | s => s
/-- behind an except suite -/
def clearX (ρ : Env) : Env := ρ.map unX
def okRet (i : Nat) : Fl → Bool
  | .ret (.al j) => j != i
  | _ => true
/-- name.extend(new list) -/
def extR (i : Nat) (ρ : Env) : EV → Option Slot → Res Fl
  | .fr (.list m), some (.own (.list l)) => if l.length + m.length ≤ szl then .ok .nx (ρ.set i (.own (.list (l ++ m)))) else .stuck
  | _, _ => .stuck
/-- does except C take it; none: the class of all -/
def hits (c : Option Nat) (x : Exc) : Bool := match c with
  | none => true
  | some n => x.cls == n
section
variable (W : Nat) (md : List Bool) (en : En)
def evalT (c : ME) (ρ : Env) : Res Bool := (evalE md en c ρ).bind fun x ρ => on ((deref ρ (toR x)).bind truthy) fun b => .ok b ρ
mutual
def execS : MS → Env → Res Fl
  | .expr e, ρ => (evalE md en e ρ).bind fun _ ρ => .ok .nx ρ
  | .set i e, ρ => if free md i = true then ((evalE md en e ρ).bind still).bind fun x ρ => (putS i x ρ).bind fun _ ρ => .ok .nx ρ else .stuck
  | .unpack is e, ρ => ((evalE md en e ρ).bind settle).bind fun d ρ => on (assignT md (.t is) d ρ) fun ρ => .ok .nx ρ
  | .par i j a b, ρ => if free md i = true ∧ free md j = true then ((evalE md en a ρ).bind still).bind fun x ρ => ((evalE md en b ρ).bind still).bind fun y ρ =>
      (putS i x ρ).bind fun _ ρ => (putS j y ρ).bind fun _ ρ => .ok .nx ρ
    else .stuck
  | .aug i o e, ρ => if free md i = true then match ρ[i]? with
    | some (.val x) => ((evalE md en e ρ).bind settle).bind fun y ρ => on (augD o x y) fun z => .ok .nx (ρ.set i (.val z))
    | _ => .stuck
    else .stuck
  | .put i k e, ρ => ((evalE md en e ρ).bind settle).bind fun d ρ => if isOwn ρ i = true then ((evalE md en k ρ).bind settle).bind fun n ρ => match n, ρ[i]? with
    | .int n, some (.own (.list l)) => on (L2.ixN l.length n) fun j => .ok .nx (ρ.set i (.own (.list (l.set j d))))
    | _, _ => .stuck
    else .stuck
  | .putD i k e, ρ => ((evalE md en e ρ).bind settle).bind fun d ρ => if isOwnD ρ i = true then ((evalE md en k ρ).bind settle).bind fun n ρ => match keyOf n, ρ[i]? with
    | some n, some (.own (.dict l)) => if l.length < szl then .ok .nx (ρ.set i (.own (.dict (putKD n d l)))) else .stuck
    | _, _ => .stuck
    else .stuck
  | .app i e, ρ => if isOwn ρ i = true then ((evalE md en e ρ).bind settle).bind fun d ρ => match ρ[i]? with
    | some (.own (.list l)) => if l.length < szl then .ok .nx (ρ.set i (.own (.list (l ++ [d])))) else .stuck
    | _ => .stuck
    else .stuck
  | .ext i e, ρ => if isOwn ρ i = true then (evalE md en e ρ).bind fun x ρ => extR i ρ x ρ[i]? else .stuck
  | .ret e, ρ => (evalE md en e ρ).bind fun x ρ => .ok (.ret x) ρ
  | .ite c a b, ρ => (evalT md en c ρ).bind fun k ρ => if k = true then execSs a ρ else execSs b ρ
  | .while c b, ρ => whileL (evalT md en c) (execSs b) W ρ
  | .for tg it b, ρ => (evalI md en it ρ).bind fun ds ρ => forL (assignT md tg) (execSs b) ds ρ
  | .pass, ρ => .ok .nx ρ
  | .brk, ρ => .ok .brk ρ
  | .cont, ρ => .ok .cnt ρ
  | .raise0 c, ρ => .exc ⟨c, .none⟩ ρ
  | .raise1 c e, ρ => ((evalE md en e ρ).bind settle).bind fun d ρ => .exc ⟨c, d⟩ ρ
  | .tryAs b c i h, ρ => if free md i = true then match execSs b ρ with
    | .exc x ρ => if hits c x = true then (execSs h (ρ.set i (.exc x))).nox.bind fun f ρ => if okRet i f = true then .ok f ((clearX ρ).set i .un) else .stuck else .exc x ρ
    | r => r
    else .stuck
  | .tryOnly b c h, ρ => match execSs b ρ with
    | .exc x ρ => if hits c x = true then (execSs h ρ).nox else .exc x ρ
    | r => r
def execSs : List MS → Env → Res Fl
  | [], ρ => .ok .nx ρ
  | s :: ss, ρ => (execS s ρ).bind fun f ρ => match f with
    | .nx => execSs ss ρ
    | f => .ok f ρ
end
end
/-- a def -/
structure FD where
  np : Nat
  ns : Nat
  md : List Bool
  body : List MS
def isVal : Slot → Bool
  | .val _ => true
  | .own _ => true
  | _ => false
/-- the parameters' slots at the end: each holds something -/
def outs (np : Nat) (ρ : Env) (f : List Slot → CRes) : CRes := if np ≤ ρ.length ∧ (ρ.take np).all isVal = true then f (ρ.take np) else .stuck
/-- what goes back: a parameter's list is locked, the def's own one is handed over -/
def back (np : Nat) (e : EV) (ρ : Env) : CRes := match e with
  | .val d => outs np ρ (.ok (.val d))
  | .fr d => outs np ρ (.ok (.fr d))
  | .al i => if i < np then match settle (.al i) ρ with
      | .ok d ρ => outs np ρ (.ok (.val d))
      | _ => .stuck
    else match ρ[i]? with
      | some (.own d) => outs np ρ (.ok (.fr d))
      | some (.val d) => outs np ρ (.ok (.val d))
      | _ => .stuck
def runF (W : Nat) (en : En) (fd : FD) (ss : List Slot) : CRes :=
  if ss.length = fd.np then match execSs W fd.md en fd.body (ss ++ List.replicate (fd.ns - fd.np) .un) with
    | .ok .nx ρ => back fd.np (.val .none) ρ
    | .ok (.ret e) ρ => back fd.np e ρ
    | .exc x ρ => outs fd.np ρ (.exc x)
    | _ => .stuck
  else .stuck
/-- a lambda's body: one return -/
def runT (W : Nat) (en : En) (fd : FD) (ss : List Slot) : CRes :=
  match fd.body with
  | [.ret m] => match evalE fd.md en m ss with
    | .ok e _ => .ok e []
    | .exc x _ => .exc x []
    | .stuck => .stuck
  | _ => .stuck
def noCalls : Calls := fun _ _ => .stuck
def modesOf (T : List FD) : Nat → List Bool := fun g => ((T[g]?).map (·.md)).getD []
/-- a def that was handed a lambda -/
def backL (e : EV) (ρ : Env) : CRes := match e with
  | .al i => match ρ[i]? with
    | some (.own d) => .ok (.fr d) []
    | some (.val d) => .ok (.val d) []
    | _ => .stuck
  | e => .ok e []
def runL (W : Nat) (en : En) (fd : FD) : CRes :=
  match execSs W fd.md en fd.body (.clo :: List.replicate (fd.ns - 1) .un) with
  | .ok .nx _ => .ok (.val .none) []
  | .ok (.ret e) ρ => backL e ρ
  | _ => .stuck
/-- defs by their levels: what a level calls (a; l with a lambda), what a lambda made there calls (c) -/
abbrev LamF := Nat → CRes → CRes
/-- around a lambda's body -/
def enT (T : List FD) (c t : Calls) (b : Bool) : En where
  modes := modesOf T
  call := c
  lam := fun _ _ => .stuck
  thunk := noCalls
  act := .stuck
  low := t
  deep := b
def enOf (W : Nat) (T : List FD) (k : Nat) (a : Calls) (l : LamF) (c t : Calls) (r : CRes) : En where
  modes := modesOf T
  call := a
  lam := fun f r => if 3 ≤ k then l f r else .stuck
  thunk := fun g ss => match T[g]? with
    | some fd => runT W (enT T c t (decide (4 ≤ k))) fd ss
    | none => .stuck
  act := r
  low := c
  deep := decide (2 ≤ k)
def stepC (W : Nat) (T : List FD) (k : Nat) (a : Calls) (l : LamF) (c t : Calls) : Calls := fun f ss => match T[f]? with
  | some fd => runF W (enOf W T k a l c t .stuck) fd ss
  | none => .stuck
def stepM (W : Nat) (T : List FD) (k : Nat) (a : Calls) (l : LamF) (c t : Calls) : LamF := fun f r => match T[f]? with
  | some fd => runL W (enOf W T k a l c t r) fd
  | none => .stuck
/-- a level's defs, and those of the four levels below -/
def levs (W : Nat) (T : List FD) : Nat → (Calls × LamF) × Calls × Calls × Calls × Calls
  | 0 => ((noCalls, fun _ _ => .stuck), noCalls, noCalls, noCalls, noCalls)
  | k + 1 => ((stepC W T k (levs W T k).1.1 (levs W T k).1.2 (levs W T k).2.2.1 (levs W T k).2.2.2.2, stepM W T k (levs W T k).1.1 (levs W T k).1.2 (levs W T k).2.2.1 (levs W T k).2.2.2.2), (levs W T k).1.1, (levs W T k).2.1, (levs W T k).2.2.1, (levs W T k).2.2.2.1)
def callF (W : Nat) (T : List FD) (k : Nat) : Calls := (levs W T k).1.1
def lamF (W : Nat) (T : List FD) (k : Nat) : LamF := (levs W T k).1.2
theorem levs_trd (W : Nat) (T : List FD) : ∀ k, (levs W T k).2.2.1 = callF W T (k - 2)
  | 0 => rfl
  | 1 => rfl
  | _ + 2 => rfl
theorem levs_fif (W : Nat) (T : List FD) : ∀ k, (levs W T k).2.2.2.2 = callF W T (k - 4)
  | 0 => rfl
  | 1 => rfl
  | 2 => rfl
  | 3 => rfl
  | _ + 4 => rfl
/-- the surroundings of a def's body of level k + 1; r: what the lambda at hand gives -/
def enK (W : Nat) (T : List FD) (k : Nat) (r : CRes) : En := enOf W T k (callF W T k) (lamF W T k) (callF W T (k - 2)) (callF W T (k - 4)) r
theorem callF_zero (W : Nat) (T : List FD) : callF W T 0 = noCalls := rfl
theorem callF_succ (W : Nat) (T : List FD) (k f : Nat) (ss : List Slot) : callF W T (k + 1) f ss = match T[f]? with
  | some fd => runF W (enK W T k .stuck) fd ss
  | none => .stuck := by
  unfold enK
  rw [← levs_trd, ← levs_fif]
  rfl
theorem callF_fun {W : Nat} {T : List FD} {k f : Nat} {fd : FD} (h : T[f]? = some fd) : callF W T (k + 1) f = runF W (enK W T k .stuck) fd := funext fun ss => by
  rw [callF_succ, h]
theorem lamF_succ (W : Nat) (T : List FD) (k f : Nat) (r : CRes) : lamF W T (k + 1) f r = match T[f]? with
  | some fd => runL W (enK W T k r) fd
  | none => .stuck := by
  unfold enK
  rw [← levs_trd, ← levs_fif]
  rfl
end Dn
/-! Den2: what data is in a heap; a def's slots; readings -/
namespace Dn
open PySem PySem.Spec PyProof.Rows L2

abbrev St := L2.St
/-! ### heaps -/
/-- what is known of an own class, by the name that stands for it -/
structure InsC (K : PySem.W.Frag) (C : Addr) (nm : Str) : Prop where
  nm : PySem.W.nsIn K mainGlobals nm = some (some (.ref C))
  cl : Cls K C
  ha : PySem.W.findIn K (.ref C) "__class__" = some (some (.builtin "object.__class__"))
  hn : PySem.W.specialIn K (.builtin "object.__class__") "__get__" = some (some (.builtin "getset_descriptor.__get__"))
  htk : PySem.W.takesIn K (.builtin "object.__class__") = some true
  hm : PySem.W.mroIn K C (.type "object") = some true
  kit : ∀ t ∈ ["int", "str", "bool", "tuple", "list", "dict"], PySem.W.kitOne K (.ref C) (.type t) = some false
/-- a list that never changes -/
def FzL (K : PySem.W.Frag) (H : Hp) (a : Addr) (xs : List V) : Prop :=
  (∃ o, H a = some (.frz o (.lst xs))) ∨
    ∃ (o : Obj) (its : Array Value) (n : Nat), K.lookup a = some o ∧ o.cls = .type "list" ∧ o.dict = none ∧ o.data = .seq its n ∧ its.size ≤ sizeLine ∧ Vals xs its.toList
theorem FzL.sq {K : PySem.W.Frag} {H : Hp} {a : Addr} {xs : List V} (h : FzL K H a xs) : SqL K H a xs := by
  rcases h with h | h
  · exact .inl (.inr h)
  · exact .inr h
/-- what never changes is kept -/
structure Ext (H H' : Hp) : Prop where
  tup : ∀ b xs, H b = some (.tup xs) → H' b = some (.tup xs)
  frz : ∀ b o u, H b = some (.frz o u) → H' b = some (.frz o u)
  xd : ∀ b fs, H b = some (.xd fs) → H' b = some (.xd fs)
  ins : ∀ b C dx fs, H b = some (.ins C dx fs) → H' b = some (.ins C dx fs)
theorem Ext.refl (H : Hp) : Ext H H := ⟨fun _ _ h => h, fun _ _ _ h => h, fun _ _ h => h, fun _ _ _ _ h => h⟩
theorem Ext.trans {H H1 H2 : Hp} (a : Ext H H1) (b : Ext H1 H2) : Ext H H2 := ⟨fun c xs h => b.tup c xs (a.tup c xs h), fun c o u h => b.frz c o u (a.frz c o u h), fun c u h => b.xd c u (a.xd c u h), fun c C x u h => b.ins c C x u (a.ins c C x u h)⟩
theorem Ext.fz {K : PySem.W.Frag} {H H' : Hp} {a : Addr} {xs : List V} (e : Ext H H') (h : FzL K H a xs) : FzL K H' a xs := by
  rcases h with ⟨o, h⟩ | h
  · exact .inl ⟨o, e.frz _ _ _ h⟩
  · exact .inr h
theorem Ext.sqt {K : PySem.W.Frag} {H H' : Hp} {a : Addr} {xs : List V} (e : Ext H H') (h : SqT K H a xs) : SqT K H' a xs := by
  rcases h with (h | ⟨o, h⟩) | h
  · exact .inl (.inl (e.tup _ _ h))
  · exact .inl (.inr ⟨o, e.frz _ _ _ h⟩)
  · exact .inr h
/-- a tuple without a dict of its own -/
def PlT (K : PySem.W.Frag) (H : Hp) (a : Addr) : Prop := (∃ o u, H a = some (.frz o u) ∧ o.dict = none) ∨ ∃ o, K.lookup a = some o ∧ o.dict = none
theorem PlT.mono {K : PySem.W.Frag} {H H' : Hp} {a : Addr} (e : Ext H H') (h : PlT K H a) : PlT K H' a := h.imp (fun ⟨o, u, h, n⟩ => ⟨o, u, e.frz _ _ _ h, n⟩) id
/-- a tuple; one that dict() takes is plain -/
def SqP (K : PySem.W.Frag) (H : Hp) (a : Addr) (xs : List V) (ds : List PyData) : Prop := SqT K H a xs ∧ (isLib ds = true → PlT K H a)
theorem SqP.mono {K : PySem.W.Frag} {H H' : Hp} {a : Addr} {xs : List V} {ds : List PyData} (e : Ext H H') (h : SqP K H a xs ds) : SqP K H' a xs ds := ⟨e.sqt h.1, fun q => (h.2 q).mono e⟩
mutual
inductive Rep (K : PySem.W.Frag) (H : Hp) : V → PyData → Prop
  | non : Rep K H .non .none
  | bl (b : Bool) : Rep K H (.bl b) (.bool b)
  | int (i : Int) : Rep K H (.int i) (.int i)
  | str (x : Str) : Rep K H (.str x) (.str x)
  | lst {a : Addr} {xs : List V} {ds : List PyData} : FzL K H a xs → Reps K H xs ds → Rep K H (.ref a) (.list ds)
  | tup {a : Addr} {xs : List V} {ds : List PyData} : SqP K H a xs ds → Reps K H xs ds → Rep K H (.ref a) (.tuple ds)
  | dct {a : Addr} {o : Obj} {ps : List (Key × V)} {kvs : List (PyData × PyData)} : H a = some (.frz o (.dK ps)) → RepKs K H ps kvs → Rep K H (.ref a) (.dict kvs)
  | ins {a C dx : Addr} {nm : Str} {fs : List (Str × V)} {kvs : List (PyData × PyData)} : H a = some (.ins C dx fs) → InsC K C nm → RepFs K H fs kvs → Rep K H (.ref a) (.dict ((.none, .str nm) :: kvs))
inductive Reps (K : PySem.W.Frag) (H : Hp) : List V → List PyData → Prop
  | nil : Reps K H [] []
  | cons {v : V} {vs : List V} {d : PyData} {ds : List PyData} : Rep K H v d → Reps K H vs ds → Reps K H (v :: vs) (d :: ds)
inductive RepFs (K : PySem.W.Frag) (H : Hp) : List (Str × V) → List (PyData × PyData) → Prop
  | nil : RepFs K H [] []
  | cons {f : Str} {v : V} {r : List (Str × V)} {d : PyData} {rs : List (PyData × PyData)} : Rep K H v d → RepFs K H r rs → RepFs K H ((f, v) :: r) ((.str f, d) :: rs)
inductive RepKs (K : PySem.W.Frag) (H : Hp) : List (Key × V) → List (PyData × PyData) → Prop
  | nil : RepKs K H [] []
  | cons {k : Key} {v : V} {r : List (Key × V)} {d : PyData} {rs : List (PyData × PyData)} : Rep K H v d → RepKs K H r rs → RepKs K H ((k, v) :: r) ((keyD k, d) :: rs)
end
section
variable {K : PySem.W.Frag} {H H' : Hp}
mutual
theorem Rep.mono (e : Ext H H') : ∀ {v : V} {d : PyData}, Rep K H v d → Rep K H' v d
  | _, _, .non => .non
  | _, _, .bl b => .bl b
  | _, _, .int i => .int i
  | _, _, .str x => .str x
  | _, _, .lst h r => .lst (e.fz h) (Reps.mono e r)
  | _, _, .tup h r => .tup (h.mono e) (Reps.mono e r)
  | _, _, .dct h r => .dct (e.frz _ _ _ h) (RepKs.mono e r)
  | _, _, .ins h c r => .ins (e.ins _ _ _ _ h) c (RepFs.mono e r)
theorem RepFs.mono (e : Ext H H') : ∀ {fs : List (Str × V)} {kvs : List (PyData × PyData)}, RepFs K H fs kvs → RepFs K H' fs kvs
  | _, _, .nil => .nil
  | _, _, .cons r rs => .cons (Rep.mono e r) (RepFs.mono e rs)
theorem Reps.mono (e : Ext H H') : ∀ {vs : List V} {ds : List PyData}, Reps K H vs ds → Reps K H' vs ds
  | _, _, .nil => .nil
  | _, _, .cons r rs => .cons (Rep.mono e r) (Reps.mono e rs)
theorem RepKs.mono (e : Ext H H') : ∀ {ps : List (Key × V)} {kvs : List (PyData × PyData)}, RepKs K H ps kvs → RepKs K H' ps kvs
  | _, _, .nil => .nil
  | _, _, .cons r rs => .cons (Rep.mono e r) (RepKs.mono e rs)
end
mutual
theorem Rep.dp : ∀ {v : V} {d : PyData}, Rep K H v d → d.hasDict = false → Dp K H v d
  | _, _, .non, _ => .non
  | _, _, .bl b, _ => .bl b
  | _, _, .int i, _ => .int i
  | _, _, .str x, _ => .str x
  | _, _, .lst h r, n => .lst h.sq (Reps.dp r n)
  | _, _, .tup h r, n => .tup h.1 (Reps.dp r n)
  | _, _, .dct _ _, n => by cases n
  | _, _, .ins _ _ _, n => by cases n
theorem Reps.dp : ∀ {vs : List V} {ds : List PyData}, Reps K H vs ds → PyData.hasDictAll ds = false → DpAll K H vs ds
  | _, _, .nil, _ => .nil
  | _, _, .cons (d := d) (ds := ds) r rs, n => by
    have n : (d.hasDict || PyData.hasDictAll ds) = false := n
    rw [Bool.or_eq_false_iff] at n
    exact .cons (Rep.dp r n.1) (Reps.dp rs n.2)
end
theorem Reps.length : ∀ {vs : List V} {ds : List PyData}, Reps K H vs ds → vs.length = ds.length
  | _, _, .nil => rfl
  | _, _, .cons _ rs => by rw [List.length_cons, List.length_cons, Reps.length rs]
theorem Reps.get : ∀ {vs : List V} {ds : List PyData} {i : Nat} {d : PyData}, Reps K H vs ds → ds[i]? = some d → ∃ v, vs[i]? = some v ∧ Rep K H v d
  | _, _, _, _, .nil, e => by simp at e
  | _, _, 0, _, .cons r _, e => by simp at e; subst e; exact ⟨_, rfl, r⟩
  | _, _, i + 1, _, .cons _ t, e => by
    obtain ⟨u, h1, h2⟩ := Reps.get (i := i) t (by simpa using e)
    exact ⟨u, by simpa using h1, h2⟩
theorem Reps.getV : ∀ {vs : List V} {ds : List PyData} {i : Nat} {v : V}, Reps K H vs ds → vs[i]? = some v → ∃ d, ds[i]? = some d ∧ Rep K H v d
  | _, _, _, _, .nil, e => by simp at e
  | _, _, 0, _, .cons r _, e => by simp at e; subst e; exact ⟨_, rfl, r⟩
  | _, _, i + 1, _, .cons _ t, e => by
    obtain ⟨u, h1, h2⟩ := Reps.getV (i := i) t (by simpa using e)
    exact ⟨u, by simpa using h1, h2⟩
theorem Reps.append : ∀ {vs ws : List V} {ds es : List PyData}, Reps K H vs ds → Reps K H ws es → Reps K H (vs ++ ws) (ds ++ es)
  | _, _, _, _, .nil, s => s
  | _, _, _, _, .cons r t, s => .cons r (Reps.append t s)
theorem Reps.take : ∀ {vs : List V} {ds : List PyData} (n : Nat), Reps K H vs ds → Reps K H (vs.take n) (ds.take n)
  | _, _, 0, _ => .nil
  | _, _, _ + 1, .nil => .nil
  | _, _, n + 1, .cons r t => .cons r (Reps.take n t)
theorem Reps.drop : ∀ {vs : List V} {ds : List PyData} (n : Nat), Reps K H vs ds → Reps K H (vs.drop n) (ds.drop n)
  | _, _, 0, r => r
  | _, _, _ + 1, .nil => .nil
  | _, _, n + 1, .cons _ t => Reps.drop n t
theorem Reps.set : ∀ {vs : List V} {ds : List PyData} {v : V} {d : PyData} (n : Nat), Reps K H vs ds → Rep K H v d → Reps K H (vs.set n v) (ds.set n d)
  | _, _, _, _, _, .nil, _ => .nil
  | _, _, _, _, 0, .cons r t, q => .cons q t
  | _, _, _, _, n + 1, .cons r t, q => .cons r (Reps.set n t q)
theorem Reps.reverse : ∀ {vs : List V} {ds : List PyData}, Reps K H vs ds → Reps K H vs.reverse ds.reverse
  | _, _, .nil => .nil
  | _, _, .cons r t => by
    rw [List.reverse_cons, List.reverse_cons]
    exact (Reps.reverse t).append (.cons r .nil)
theorem Reps.dropLast {vs : List V} {ds : List PyData} (r : Reps K H vs ds) : Reps K H vs.dropLast ds.dropLast := by
  rw [List.dropLast_eq_take, List.dropLast_eq_take, r.length]
  exact r.take _
theorem Reps.eraseIdx {vs : List V} {ds : List PyData} (n : Nat) (r : Reps K H vs ds) : Reps K H (vs.eraseIdx n) (ds.eraseIdx n) := by
  rw [List.eraseIdx_eq_take_drop_succ, List.eraseIdx_eq_take_drop_succ]
  exact (r.take n).append (r.drop (n + 1))
theorem Reps.cut {vs : List V} {ds : List PyData} (r : Reps K H vs ds) (lo hi : Option Int) : Reps K H (cutV vs lo hi) (cutL ds lo hi) := by
  unfold cutV cutL
  rw [r.length]
  exact (r.drop _).take _
end

section
variable {K : PySem.W.Frag} {H : Hp}
theorem keyOf_keyD (k : Key) : keyOf (keyD k) = some k := by cases k <;> rfl
theorem keyOf_inv {d : PyData} {k : Key} (h : keyOf d = some k) : d = keyD k := by
  cases d <;> first | (cases h; rfl) | cases h
theorem isKey_keyD (k j : Key) : isKey k (keyD j) = decide (j = k) := by
  unfold isKey
  rw [keyOf_keyD]
theorem RepKs.find (k : Key) : ∀ {ps : List (Key × V)} {kvs : List (PyData × PyData)}, RepKs K H ps kvs → (∀ d, findK k kvs = some d → ∃ v, valV ps k = some v ∧ Rep K H v d) ∧ (findK k kvs = none → valV ps k = none)
  | _, _, .nil => ⟨fun d h => (by cases h), fun _ => rfl⟩
  | _, _, .cons (k := j) (v := v) (r := r) (d := d) (rs := rs) h t => by
    obtain ⟨i1, i2⟩ := RepKs.find k t
    have e : findK k ((keyD j, d) :: rs) = if decide (j = k) = true then some d else findK k rs := by
      show (if isKey k (keyD j) = true then some d else findK k rs) = _
      rw [isKey_keyD]
    rw [e]
    by_cases hj : j = k
    · rw [if_pos (decide_eq_true hj), valV_pos (p := (j, v)) hj]
      exact ⟨fun d' q => (by cases q; exact ⟨v, rfl, h⟩), fun q => (by cases q)⟩
    · rw [if_neg (by rw [decide_eq_false hj]; exact Bool.false_ne_true), valV_neg (p := (j, v)) hj]
      exact ⟨i1, i2⟩
theorem RepKs.isSome (k : Key) {ps : List (Key × V)} {kvs : List (PyData × PyData)} (r : RepKs K H ps kvs) : (findK k kvs).isSome = (valV ps k).isSome := by
  obtain ⟨h1, h2⟩ := r.find k
  cases e : findK k kvs with
  | none => rw [h2 e]; rfl
  | some d =>
    obtain ⟨v, q, _⟩ := h1 d e
    rw [q]; rfl
theorem RepKs.length : ∀ {ps : List (Key × V)} {kvs : List (PyData × PyData)}, RepKs K H ps kvs → ps.length = kvs.length
  | _, _, .nil => rfl
  | _, _, .cons _ t => congrArg (· + 1) (RepKs.length t)
theorem RepKs.app : ∀ {ps qs : List (Key × V)} {kvs lws : List (PyData × PyData)}, RepKs K H ps kvs → RepKs K H qs lws → RepKs K H (ps ++ qs) (kvs ++ lws)
  | _, _, _, _, .nil, t => t
  | _, _, _, _, .cons h r, t => .cons h (RepKs.app r t)
theorem RepKs.repl (k : Key) {v : V} {d : PyData} (hv : Rep K H v d) : ∀ {ps : List (Key × V)} {kvs : List (PyData × PyData)}, RepKs K H ps kvs → RepKs K H (ps.map fun kv => if kv.1 = k then (kv.1, v) else kv) (kvs.map fun p => if isKey k p.1 = true then (p.1, d) else p)
  | _, _, .nil => .nil
  | _, _, .cons (k := j) (v := w) (d := e) h t => by
    have ih := RepKs.repl k hv t
    rw [List.map_cons, List.map_cons]
    by_cases hj : j = k
    · rw [if_pos hj, if_pos (by rw [isKey_keyD]; exact decide_eq_true hj)]
      exact .cons hv ih
    · rw [if_neg hj, if_neg (by rw [isKey_keyD, decide_eq_false hj]; exact Bool.false_ne_true)]
      exact .cons h ih
end
theorem RepKs.put {K : PySem.W.Frag} {H : Hp} {ps : List (Key × V)} {kvs : List (PyData × PyData)} (k : Key) {v : V} {d : PyData} (r : RepKs K H ps kvs) (hv : Rep K H v d) : RepKs K H (putK ps k v) (putKD k d kvs) := by
  unfold putK putKD
  rw [r.isSome, valV_any]
  by_cases h : (valV ps k).isSome = true
  · rw [if_pos h, if_pos h]
    exact RepKs.repl k hv r
  · rw [if_neg h, if_neg h]
    exact RepKs.app r (.cons hv .nil)
/-- what a thing that may change holds -/
def Cn (K : PySem.W.Frag) (H : Hp) : HO → PyData → Prop
  | .lst xs, .list ds => Reps K H xs ds
  | .dK ps, .dict kvs => RepKs K H ps kvs
  | _, _ => False
def Lkb (u : HO) : Prop := (∃ xs, u = .lst xs) ∨ ∃ ps, u = .dK ps
section
variable {K : PySem.W.Frag} {H H' : Hp} {u : HO} {d : PyData}
theorem Cn.mono (e : Ext H H') (c : Cn K H u d) : Cn K H' u d := by
  cases u <;> cases d <;> first | exact False.elim c | exact Reps.mono e c | exact RepKs.mono e c
theorem Cn.lk (c : Cn K H u d) : Lkb u := by
  cases u <;> cases d <;> first | exact False.elim c | exact .inl ⟨_, rfl⟩ | exact .inr ⟨_, rfl⟩
theorem Cn.rep {a : Addr} {o : Obj} (c : Cn K H u d) (h : H a = some (.frz o u)) : Rep K H (.ref a) d := by
  cases u <;> cases d <;> first | exact False.elim c | exact .lst (.inl ⟨o, h⟩) c | exact .dct h c
theorem Cn.list {xs : List V} {ds : List PyData} (c : Reps K H xs ds) : Cn K H (.lst xs) (.list ds) := c
theorem Cn.inv {ds : List PyData} (c : Cn K H u (.list ds)) : ∃ xs, u = .lst xs ∧ Reps K H xs ds := by
  cases u <;> first | exact False.elim c | exact ⟨_, rfl, c⟩
theorem Cn.invD {kvs : List (PyData × PyData)} (c : Cn K H u (.dict kvs)) : ∃ ps, u = .dK ps ∧ RepKs K H ps kvs := by
  cases u <;> first | exact False.elim c | exact ⟨_, rfl, c⟩
theorem Lkb.tup (l : Lkb u) {xs : List V} : HO.tup xs ≠ u := fun e => by
  subst e
  rcases l with ⟨_, e⟩ | ⟨_, e⟩ <;> cases e
theorem Lkb.frz (l : Lkb u) {o : Obj} {w : HO} : HO.frz o w ≠ u := fun e => by
  subst e
  rcases l with ⟨_, e⟩ | ⟨_, e⟩ <;> cases e
theorem Lkb.tbl (l : Lkb u) {ps : Array Value} : HO.tbl ps ≠ u := fun e => by
  subst e
  rcases l with ⟨_, e⟩ | ⟨_, e⟩ <;> cases e
theorem Lkb.xd (l : Lkb u) {fs : List (Str × V)} : HO.xd fs ≠ u := fun e => by
  subst e
  rcases l with ⟨_, e⟩ | ⟨_, e⟩ <;> cases e
theorem Lkb.ins (l : Lkb u) {C dx : Addr} {fs : List (Str × V)} : HO.ins C dx fs ≠ u := fun e => by
  subst e
  rcases l with ⟨_, e⟩ | ⟨_, e⟩ <;> cases e
theorem Lkb.nt (l : Lkb u) : ∀ ps, u ≠ HO.tbl ps := fun ps e => by
  subst e
  rcases l with ⟨_, e⟩ | ⟨_, e⟩ <;> cases e
theorem Lkb.own (l : Lkb u) {x : Addr} : HO.own x ≠ u := fun e => by
  subst e
  rcases l with ⟨_, e⟩ | ⟨_, e⟩ <;> cases e
end
/-- a list or dict that one slot alone holds -/
def RepO (K : PySem.W.Frag) (H : Hp) (v : V) (d : PyData) : Prop := ∃ a u, v = .ref a ∧ H a = some u ∧ Cn K H u d
theorem RepO.list {K : PySem.W.Frag} {H : Hp} {v : V} {ds : List PyData} (h : RepO K H v (.list ds)) : ∃ a xs, v = .ref a ∧ H a = some (.lst xs) ∧ Reps K H xs ds := by
  obtain ⟨a, u, rfl, h, c⟩ := h
  obtain ⟨xs, rfl, r⟩ := c.inv
  exact ⟨a, xs, rfl, h, r⟩
theorem RepO.dict {K : PySem.W.Frag} {H : Hp} {v : V} {kvs : List (PyData × PyData)} (h : RepO K H v (.dict kvs)) : ∃ a ps, v = .ref a ∧ H a = some (.dK ps) ∧ RepKs K H ps kvs := by
  obtain ⟨a, u, rfl, h, c⟩ := h
  obtain ⟨ps, rfl, r⟩ := c.invD
  exact ⟨a, ps, rfl, h, r⟩
/-- an instance -/
def RepI (K : PySem.W.Frag) (H : Hp) (a : Addr) (kvs : List (PyData × PyData)) : Prop := ∃ C dx nm fs ds, kvs = (.none, .str nm) :: ds ∧ H a = some (.ins C dx fs) ∧ InsC K C nm ∧ RepFs K H fs ds
theorem RepI.is {K : PySem.W.Frag} {H : Hp} {a : Addr} {kvs : List (PyData × PyData)} (h : RepI K H a kvs) : isIns kvs = true := by
  obtain ⟨_, _, _, _, _, rfl, _⟩ := h
  rfl
theorem RepKs.no {K : PySem.W.Frag} {H : Hp} {ps : List (Key × V)} {kvs : List (PyData × PyData)} (h : RepKs K H ps kvs) : isIns kvs = false := by
  cases h with
  | nil => rfl
  | @cons k _ _ _ _ _ _ => cases k <;> rfl
/-- what can be read of a value -/
def RdD (K : PySem.W.Frag) (H : Hp) (v : V) : PyData → Prop
  | .list ds => ∃ a xs, v = .ref a ∧ SqL K H a xs ∧ Reps K H xs ds
  | .tuple ds => ∃ a xs, v = .ref a ∧ SqP K H a xs ds ∧ Reps K H xs ds
  | .none => v = .non
  | .bool b => v = .bl b
  | .int i => v = .int i
  | .str x => v = .str x
  | .dict kvs => ∃ a, v = .ref a ∧ ((∃ ps, Rd H a (.dK ps) ∧ RepKs K H ps kvs) ∨ RepI K H a kvs)
section
variable {K : PySem.W.Frag} {H H' : Hp}
theorem Rep.rd {v : V} {d : PyData} (h : Rep K H v d) : RdD K H v d := by
  cases h with
  | non => rfl
  | bl b => rfl
  | int i => rfl
  | str x => rfl
  | lst h r => exact ⟨_, _, rfl, h.sq, r⟩
  | tup h r => exact ⟨_, _, rfl, h, r⟩
  | dct h r => exact ⟨_, rfl, .inl ⟨_, .inr ⟨_, h⟩, r⟩⟩
  | ins h c r => exact ⟨_, rfl, .inr ⟨_, _, _, _, _, rfl, h, c, r⟩⟩
theorem RepO.rd {v : V} {d : PyData} (h : RepO K H v d) : RdD K H v d := by
  cases d with
  | list ds =>
    obtain ⟨a, xs, rfl, h, r⟩ := h.list
    exact ⟨a, xs, rfl, SqL.of h, r⟩
  | dict kvs =>
    obtain ⟨a, ps, rfl, h, r⟩ := h.dict
    exact ⟨a, rfl, .inl ⟨ps, .inl h, r⟩⟩
  | _ => obtain ⟨a, u, _, _, c⟩ := h; cases u <;> exact False.elim c
theorem RdD.dct {v : V} {kvs : List (PyData × PyData)} (h : RdD K H v (.dict kvs)) (n : isIns kvs = false) : ∃ a ps, v = .ref a ∧ Rd H a (.dK ps) ∧ RepKs K H ps kvs := by
  obtain ⟨a, rfl, ⟨ps, h1, r⟩ | h⟩ := h
  · exact ⟨a, ps, rfl, h1, r⟩
  · rw [h.is] at n
    cases n
theorem Rep.dict {v : V} {kvs : List (PyData × PyData)} (h : Rep K H v (.dict kvs)) (n : isIns kvs = false) : ∃ a o ps, v = .ref a ∧ H a = some (.frz o (.dK ps)) ∧ RepKs K H ps kvs := by
  cases h with
  | dct h r => exact ⟨_, _, _, rfl, h, r⟩
  | ins h c r => cases n
theorem RdD.dp {v : V} {d : PyData} (h : RdD K H v d) (n : d.hasDict = false) : Dp K H v d := by
  cases d with
  | none => cases (show v = V.non from h); exact .non
  | bool b => cases (show v = V.bl b from h); exact .bl b
  | int i => cases (show v = V.int i from h); exact .int i
  | str x => cases (show v = V.str x from h); exact .str x
  | list ds => obtain ⟨a, xs, rfl, h, r⟩ := h; exact .lst h (r.dp n)
  | tuple ds => obtain ⟨a, xs, rfl, h, r⟩ := h; exact .tup h.1 (r.dp n)
  | dict kvs => cases n
end

/-! ### a list is locked: a ghost step -/
theorem Inv.lock {X : Cx} {pins : List (Addr × Obj)} {σ : St} {H : Hp} {s : Shared} {a : Addr} {u0 : HO} (I : Inv X pins σ H s) (h : H a = some u0) (l : Lkb u0) : ∃ o, Inv X pins σ (upd H a (.frz o u0)) s := by
  have ok := I.hok a _ h
  obtain ⟨o, e⟩ : ∃ o, s.heap.get? a = some o := by
    rcases l with ⟨xs, rfl⟩ | ⟨ps, rfl⟩
    · obtain ⟨_, _, _, _, e⟩ := ok
      exact ⟨_, e⟩
    · obtain ⟨_, _, _, _, o, _, _, e, _⟩ := ok
      exact ⟨_, e⟩
  refine ⟨o, I.ok, I.os, I.bare, ⟨I.base.keep, I.base.slot, fun b o e n hx => ?_, I.base.there, fun b ys q => ?_, fun b o u q => ?_, fun b ps q => ?_⟩, I.loc, I.cell, ?_, fun x c q => ?_, fun p hp => ?_, fun b u q => ?_, I.len⟩
  · have q := I.base.free b o e n hx
    rw [upd_ne (ne_of_none h q).symm]
    exact q
  · have q' := I.base.tups b ys q
    rw [upd_ne (ne_of q' h l.tup)]
    exact q'
  · have q' := I.base.frzs b o u q
    rw [upd_ne (ne_of q' h l.frz)]
    exact q'
  · obtain ⟨m, q'⟩ := I.base.tbls b ps q
    exact ⟨m, by rw [upd_ne (ne_of q' h l.tbl)]; exact q'⟩
  · rw [upd_ne (ne_of_none h I.free).symm]
    exact I.free
  · rw [upd_ne (ne_of_none h (I.freeC x c q)).symm]
    exact I.freeC x c q
  · obtain ⟨e1, n1, r1⟩ := I.pin p hp
    exact ⟨e1, by rw [upd_ne (ne_of_none h n1).symm]; exact n1, r1⟩
  · by_cases hb : b = a
    · subst hb
      rw [upd_same] at q
      cases q
      refine ⟨e, ?_⟩
      rcases l with ⟨xs, rfl⟩ | ⟨ps, rfl⟩
      · exact ok
      · exact ok
    · rw [upd_ne hb] at q
      refine (I.hok b u q).stay (fun _ _ _ e => e) (fun c e => ?_) fun c ys e => ?_
      · rw [upd_ne (ne_of e h l.own)]; exact e
      · rw [upd_ne (ne_of e h l.tup)]; exact e
/-- behind an expression a list may be locked -/
theorem PE.lock {X : Cx} {e : Expr} {t t' : TE} (h : PE X e t)
    (g : ∀ σ H Q, t' σ H Q → t σ H fun v H1 => Q v H1 ∨ ∃ a u, H1 a = some u ∧ Lkb u ∧ ∀ o, Q v (upd H1 a (.frz o u))) : PE X e t' := by
  refine ⟨fun pins s σ H Q I w => thn (h.run pins s σ H _ I (g σ H Q w)) fun u s' ⟨v, H', I', r, q⟩ => ?_⟩
  rcases q with q | ⟨a, u0, ha, l, q⟩
  · exact ⟨v, H', I', r, q⟩
  · obtain ⟨o, I2⟩ := Inv.lock I' ha l
    exact ⟨v, _, I2, r, q o⟩
theorem PE.imp {X : Cx} {e : Expr} {t t' : TE} (h : PE X e t) (g : ∀ σ H Q, t' σ H Q → t σ H Q) : PE X e t' :=
  ⟨fun pins s σ H Q I w => h.run pins s σ H Q I (g σ H Q w)⟩
theorem PT.imp {X : Cx} {e : Expr} {t t' : TT} (h : PT X e t) (g : ∀ σ H Q, t' σ H Q → t σ H Q) : PT X e t' :=
  ⟨fun pins s σ H Q I w => h.run pins s σ H Q I (g σ H Q w)⟩
theorem PS.imp {X : Cx} {e : Stmt} {t t' : TS} (h : PS X e t) (g : ∀ D σ H, t' D σ H → t D σ H) : PS X e t' :=
  ⟨fun pins s σ H D I w => h.run pins s σ H D I (g D σ H w)⟩
theorem PSs.imp {X : Cx} {e : List Stmt} {t t' : TS} (h : PSs X e t) (g : ∀ D σ H, t' D σ H → t D σ H) : PSs X e t' :=
  ⟨fun pins s σ H D I w => h.run pins s σ H D I (g D σ H w)⟩
theorem PA.imp {X : Cx} {e : List Expr} {t t' : TA} (h : PA X e t) (g : ∀ σ H Q, t' σ H Q → t σ H Q) : PA X e t' :=
  ⟨fun pos pins s σ H Q I w => h.run pos pins s σ H Q I (g σ H Q w)⟩

/-! ### the state of a def -/
/-- a run of a def: the lists that it was handed in, the heap at its start, these parameters' values -/
structure Gh where
  A : Addr → Prop
  H0 : Hp
  fx : Nat → Option V
  anc : Hp → Prop := fun _ => False
def Owned (σ : St) (ρ : Env) (b : Addr) : Prop := ∃ (i : Nat) (d : PyData), ρ[i]? = some (.own d) ∧ σ[i]? = some (some (.ref b))
/-- what is fixed around a def's body: its modes; the exceptions' classes with their fields; the tables of code objects; the exception at hand; the lambda at hand, its code object -/
structure Rm where
  l : List Bool
  cl : List (Addr × Option Str)
  T : List (Addr × Str)
  xo : Option (Addr × Value × Option Addr) := none
  fv : V := .non
  cod : Option (Addr × Str) := none
  h0 : Option Hp := none
/-- an exception: its class and its dict -/
def RepX (K : PySem.W.Frag) (cl : List (Addr × Option Str)) (H : Hp) (x : Exc) (cls : Value) (d : Option Addr) : Prop := ∃ C fo, cl[x.cls]? = some (C, fo) ∧ cls = .ref C ∧ match fo with
  | none => d = none ∧ x.fld = .none
  | some f => ∃ dx v, d = some dx ∧ H dx = some (.xd [(f, v)]) ∧ Rep K H v x.fld
theorem RepX.mono {K : PySem.W.Frag} {cl : List (Addr × Option Str)} {H H' : Hp} {x : Exc} {cls : Value} {d : Option Addr} (e : Ext H H') (h : RepX K cl H x cls d) : RepX K cl H' x cls d := by
  obtain ⟨C, fo, h1, h2, h3⟩ := h
  refine ⟨C, fo, h1, h2, ?_⟩
  cases fo with
  | none => exact h3
  | some f => obtain ⟨dx, v, e1, e2, e3⟩ := h3; exact ⟨dx, v, e1, e.xd _ _ e2, e3.mono e⟩
/-- an exception's or a lambda's slot -/
def isOth : Slot → Bool
  | .exc _ => true
  | .clo => true
  | _ => false
def Oth (K : PySem.W.Frag) (md : Rm) (H : Hp) (v : V) : Slot → Prop
  | .exc x => ∃ a cls d, md.xo = some (a, cls, d) ∧ v = .ref a ∧ RepX K md.cl H x cls d
  | .clo => v = md.fv
  | _ => False
theorem Oth.mono {K : PySem.W.Frag} {md : Rm} {H H' : Hp} {v : V} {s : Slot} (e : Ext H H') (h : Oth K md H v s) : Oth K md H' v s := by
  cases s with
  | exc x => obtain ⟨a, cls, d, h1, h2, h3⟩ := h; exact ⟨a, cls, d, h1, h2, h3.mono e⟩
  | _ => exact h
/-- tables and the code object at hand -/
def Glo (md : Rm) (H : Hp) : Prop := LamX.Tabs md.T H ∧ ∀ c q, md.cod = some (c, q) → H c = some (LamX.CodeO c q)
theorem Glo.keep {md : Rm} {H H' : Hp} (e : ∀ b o, H b = some o → ¬ Lkb o → H' b = some o) (h : Glo md H) : Glo md H' := by
  have nc : ∀ {c q}, ¬ Lkb (LamX.CodeO c q) := fun {c q} l => by
    unfold LamX.CodeO at l
    rcases l with ⟨_, z⟩ | ⟨_, z⟩ <;> cases z
  refine ⟨fun p hp => ?_, fun c q z => e _ _ (h.2 c q z) nc⟩
  obtain ⟨ps, h1, h2, h3⟩ := h.1 p hp
  refine ⟨ps, e _ _ h1 fun l => l.nt ps rfl, h2, fun pos cv hc => ?_⟩
  obtain ⟨c, e1, e2⟩ := h3 pos cv hc
  exact ⟨c, e1, e _ _ e2 nc⟩
theorem Glo.upd {md : Rm} {H : Hp} {a : Addr} {u w : HO} (ha : H a = some u) (l : Lkb u) (h : Glo md H) : Glo md (upd H a w) :=
  h.keep fun b o e n => by
    by_cases z : b = a
    · subst z; rw [ha] at e; cases e; exact absurd l n
    · rw [upd_ne z]; exact e
structure RS (G : Gh) (K : PySem.W.Frag) (md : Rm) (σ : St) (ρ : Env) (H : Hp) : Prop where
  len : σ.length = ρ.length
  val : ∀ (i : Nat) d, ρ[i]? = some (.val d) → ∃ v, σ[i]? = some (some v) ∧ Rep K H v d
  own : ∀ (i : Nat) d, ρ[i]? = some (.own d) → ∃ v, σ[i]? = some (some v) ∧ RepO K H v d
  dis : ∀ (i j : Nat) (b : Addr) d e, ρ[i]? = some (.own d) → ρ[j]? = some (.own e) → σ[i]? = some (some (.ref b)) → σ[j]? = some (some (.ref b)) → i = j
  adr : ∀ (i : Nat) (b : Addr) d, ρ[i]? = some (.own d) → σ[i]? = some (some (.ref b)) → (G.A b ∧ md.l[i]? = some true) ∨ G.H0 b = none
  thr : ∀ b, H b = none → G.H0 b = none
  keep : ∀ b u, G.H0 b = some u → ¬ G.A b → (∀ ps, u ≠ .tbl ps) → H b = some u
  fix : ∀ (i : Nat) v, md.l[i]? = some true → G.fx i = some v → σ[i]? = some (some v)
  oth : ∀ (i : Nat) s, ρ[i]? = some s → isOth s = true → ∃ v, σ[i]? = some (some v) ∧ Oth K md H v s
  gl : Glo md H
  anc : ∀ Ha, (G.anc Ha ∨ md.h0 = some Ha) → Ext Ha H
def Fr (σ : St) (ρ : Env) (H H' : Hp) : Prop := (∀ b u, H b = some u → ¬ Owned σ ρ b → (∀ ps, u ≠ .tbl ps) → H' b = some u) ∧ ∀ b, H' b = none → H b = none
inductive SlSub : Slot → Slot → Prop
  | refl (s : Slot) : SlSub s s
  | own (d e : PyData) : SlSub (.own d) (.own e)
  | lock (d e : PyData) : SlSub (.own d) (.val e)
theorem SlSub.trans {s t u : Slot} (a : SlSub s t) (b : SlSub t u) : SlSub s u := by
  cases a with
  | refl => exact b
  | own d e =>
    cases b with
    | refl => exact .own _ _
    | own => exact .own _ _
    | lock => exact .lock _ _
  | lock d e =>
    cases b with
    | refl => exact .lock _ _
def Sub (ρ ρ' : Env) : Prop := ρ.length = ρ'.length ∧ ∀ (i : Nat) s', ρ'[i]? = some s' → ∃ s, ρ[i]? = some s ∧ SlSub s s'
theorem Sub.refl (ρ : Env) : Sub ρ ρ := ⟨rfl, fun _ s h => ⟨s, h, .refl s⟩⟩
theorem Sub.trans {ρ ρ1 ρ2 : Env} (a : Sub ρ ρ1) (b : Sub ρ1 ρ2) : Sub ρ ρ2 := ⟨a.1.trans b.1, fun i s h => by
  obtain ⟨t, h1, h2⟩ := b.2 i s h
  obtain ⟨u, h3, h4⟩ := a.2 i t h1
  exact ⟨u, h3, h4.trans h2⟩⟩
theorem Sub.own {ρ ρ' : Env} (a : Sub ρ ρ') {i : Nat} {d : PyData} (h : ρ'[i]? = some (.own d)) : ∃ e, ρ[i]? = some (.own e) := by
  obtain ⟨s, h1, h2⟩ := a.2 i _ h
  cases h2 with
  | refl => exact ⟨_, h1⟩
  | own => exact ⟨_, h1⟩
theorem Sub.owned {ρ ρ' : Env} (a : Sub ρ ρ') {σ : St} {b : Addr} (h : Owned σ ρ' b) : Owned σ ρ b := by
  obtain ⟨i, d, h1, h2⟩ := h
  obtain ⟨e, h3⟩ := a.own h1
  exact ⟨i, e, h3, h2⟩
theorem Sub.set {ρ : Env} {i : Nat} {s s' : Slot} (h : ρ[i]? = some s) (q : SlSub s s') : Sub ρ (ρ.set i s') := ⟨by rw [List.length_set], fun j t e => by
  by_cases hj : i = j
  · subst hj
    have hi : i < ρ.length := (List.getElem?_eq_some_iff.mp h).1
    rw [List.getElem?_set_self hi] at e
    cases e
    exact ⟨s, h, q⟩
  · rw [List.getElem?_set_ne hj] at e
    exact ⟨t, e, .refl t⟩⟩
theorem Fr.refl {σ : St} {ρ : Env} {H : Hp} : Fr σ ρ H H := ⟨fun _ _ h _ _ => h, fun _ h => h⟩
theorem Fr.grow {σ : St} {ρ : Env} {H H' : Hp} (e : ∀ b u, H b = some u → H' b = some u) : Fr σ ρ H H' := ⟨fun b u h _ _ => e b u h, fun b h => by
  cases q : H b with
  | none => rfl
  | some u => rw [e b u q] at h; cases h⟩
theorem Fr.trans {σ : St} {ρ ρ1 : Env} {H H1 H2 : Hp} (a : Fr σ ρ H H1) (s : Sub ρ ρ1) (b : Fr σ ρ1 H1 H2) : Fr σ ρ H H2 := ⟨fun c u h n t => b.1 c u (a.1 c u h n t) (fun q => n (s.owned q)) t, fun c h => a.2 c (b.2 c h)⟩
section
variable {G : Gh} {K : PySem.W.Frag} {md : Rm} {σ : St} {ρ ρ' : Env} {H H' : Hp}
theorem RS.owned (R : RS G K md σ ρ H) {b : Addr} (h : Owned σ ρ b) : ∃ u, H b = some u ∧ Lkb u := by
  obtain ⟨i, d, h1, h2⟩ := h
  obtain ⟨v, h3, a, u, e1, h4, c⟩ := R.own i d h1
  rw [h2] at h3
  cases h3
  cases e1
  exact ⟨u, h4, c.lk⟩
theorem RS.ext (R : RS G K md σ ρ H) (f : Fr σ ρ H H') : Ext H H' := by
  refine ⟨fun b xs h => f.1 b _ h (fun q => ?_) (fun _ z => nomatch z), fun b o u h => f.1 b _ h (fun q => ?_) (fun _ z => nomatch z), fun b u h => f.1 b _ h (fun q => ?_) (fun _ z => nomatch z), fun b C x u h => f.1 b _ h (fun q => ?_) (fun _ z => nomatch z)⟩
  · obtain ⟨w, e, l⟩ := R.owned q
    rw [h] at e
    exact l.tup (Option.some.inj e)
  · obtain ⟨w, e, l⟩ := R.owned q
    rw [h] at e
    exact l.frz (Option.some.inj e)
  · obtain ⟨w, e, l⟩ := R.owned q
    rw [h] at e
    exact l.xd (Option.some.inj e)
  · obtain ⟨w, e, l⟩ := R.owned q
    rw [h] at e
    exact l.ins (Option.some.inj e)
theorem RS.fresh (R : RS G K md σ ρ H) {a : Addr} (h : H a = none) : ¬ Owned σ ρ a := fun q => by
  obtain ⟨w, e, _⟩ := R.owned q
  rw [h] at e; cases e
theorem RS.adr' (R : RS G K md σ ρ H) {b : Addr} (h : Owned σ ρ b) : G.A b ∨ G.H0 b = none := by
  obtain ⟨i, d, h1, h2⟩ := h
  exact (R.adr i b d h1 h2).imp (·.1) id
/-- only new objects: the state stays -/
theorem RS.grow (R : RS G K md σ ρ H) (e : ∀ b u, H b = some u → H' b = some u) : RS G K md σ ρ H' := by
  have x : Ext H H' := ⟨fun b xs h => e b _ h, fun b o u h => e b _ h, fun b u h => e b _ h, fun b C x u h => e b _ h⟩
  refine ⟨R.len, fun i d h => ?_, fun i d h => ?_, R.dis, R.adr, fun b h => R.thr b ?_, fun b u h n t => e b u (R.keep b u h n t), R.fix, fun i s h z => ?_, R.gl.keep fun b o q _ => e b o q, fun Ha q => (R.anc Ha q).trans x⟩
  · obtain ⟨v, h1, h2⟩ := R.val i d h
    exact ⟨v, h1, h2.mono x⟩
  · obtain ⟨v, h1, a, u, e1, h4, c⟩ := R.own i d h
    exact ⟨v, h1, a, u, e1, e a _ h4, c.mono x⟩
  · cases q : H b with
    | none => rfl
    | some u => rw [e b u q] at h; cases h
  · obtain ⟨v, h1, h2⟩ := R.oth i s h z
    exact ⟨v, h1, h2.mono x⟩
end

/-! ### values at hand -/
/-- behind an expression that began at H -/
def RepEV (K : PySem.W.Frag) (σ : St) (H H' : Hp) (v : V) : EV → Prop
  | .val d => Rep K H' v d
  | .fr d => ∃ a, v = .ref a ∧ H a = none ∧ RepO K H' v d
  | .al i => σ[i]? = some (some v)
def RepRV (K : PySem.W.Frag) (σ : St) (H : Hp) (v : V) : RV → Prop
  | .dat d => Rep K H v d
  | .al i => σ[i]? = some (some v)
theorem RepRV.mono {K : PySem.W.Frag} {σ : St} {H H' : Hp} {v : V} {r : RV} (e : Ext H H') (h : RepRV K σ H v r) : RepRV K σ H' v r := by
  cases r with
  | dat d => exact Rep.mono e h
  | al i => exact h
theorem RepRV.rd {G : Gh} {K : PySem.W.Frag} {md : Rm} {σ : St} {ρ : Env} {H : Hp} {v : V} {r : RV} {d : PyData} (R : RS G K md σ ρ H) (h : RepRV K σ H v r) (e : deref ρ r = some d) : RdD K H v d := by
  cases r with
  | dat d' =>
    have e' : d' = d := Option.some.inj e
    subst e'
    exact Rep.rd h
  | al i =>
    have e' : (ρ[i]?).bind slotD = some d := e
    have h' : σ[i]? = some (some v) := h
    cases q : ρ[i]? with
    | none => rw [q] at e'; cases e'
    | some s =>
      rw [q] at e'
      cases s with
      | un => cases e'
      | exc x => cases e'
      | clo => cases e'
      | val d' =>
        cases e'
        obtain ⟨v', h1, h2⟩ := R.val i _ q
        rw [h'] at h1; cases h1
        exact h2.rd
      | own d' =>
        cases e'
        obtain ⟨v', h1, h2⟩ := R.own i _ q
        rw [h'] at h1; cases h1
        exact h2.rd
/-- what is wanted of a result; Ex: of an exception -/
def Want {α : Type} (Ex : Exc → Env → Prop) (r : Res α) (P : α → Env → Prop) : Prop := match r with
  | .ok a ρ => P a ρ
  | .exc x ρ => Ex x ρ
  | .stuck => False
theorem Want.bind {α β : Type} {Ex : Exc → Env → Prop} {r : Res α} {f : α → Env → Res β} {P : β → Env → Prop} (h : Want Ex (r.bind f) P) : Want Ex r fun a ρ => Want Ex (f a ρ) P := by
  cases r with
  | ok a ρ => exact h
  | exc x ρ => exact h
  | stuck => exact h
theorem Want.mono {α : Type} {Ex : Exc → Env → Prop} {r : Res α} {P P' : α → Env → Prop} (h : Want Ex r P) (g : ∀ a ρ, P a ρ → P' a ρ) : Want Ex r P' := by
  cases r with
  | ok a ρ => exact g _ _ h
  | exc x ρ => exact h
  | stuck => exact h
theorem Want.nox {α : Type} {Ex Ex' : Exc → Env → Prop} {r : Res α} {P : α → Env → Prop} (h : Want Ex r.nox P) : Want Ex' r P := by
  cases r with
  | ok a ρ => exact h
  | exc x ρ => exact False.elim h
  | stuck => exact h
theorem Want.ofO {α : Type} {Ex : Exc → Env → Prop} {o : Option α} {ρ : Env} {P : α → Env → Prop} (h : Want Ex (ofO o ρ) P) : ∃ a, o = some a ∧ P a ρ := by
  cases o with
  | none => exact False.elim h
  | some a => exact ⟨a, rfl, h⟩
/-- what an exception finds -/
def ExO (G : Gh) (K : PySem.W.Frag) (md : Rm) (Wx : L2.WX) : Exc → Env → Prop := fun x ρ => ∀ σ cls d H, RS G K md σ ρ H → RepX K md.cl H x cls d → Wx cls d σ H

section
variable (K : PySem.W.Frag) (md : Rm) (Wx : L2.WX)
/-- raw; read; data; a truth value -/
def tE (f : Env → Res EV) : TE := fun σ H Q => ∃ G ρ, RS G K md σ ρ H ∧ Want (ExO G K md Wx) (f ρ) fun x ρ' => ∀ v H', Fr σ ρ H H' → Sub ρ ρ' → RS G K md σ ρ' H' → RepEV K σ H H' v x → Q v H'
def tR (f : Env → Res EV) : TE := fun σ H Q => ∃ G ρ, RS G K md σ ρ H ∧ Want (ExO G K md Wx) (f ρ) fun x ρ' => ∀ v H', Fr σ ρ H H' → Sub ρ ρ' → RS G K md σ ρ' H' → RepRV K σ H' v (toR x) → Q v H'
def tV (f : Env → Res PyData) : TE := fun σ H Q => ∃ G ρ, RS G K md σ ρ H ∧ Want (ExO G K md Wx) (f ρ) fun d ρ' => ∀ v H', Fr σ ρ H H' → Sub ρ ρ' → RS G K md σ ρ' H' → Rep K H' v d → Q v H'
def tTr (f : Env → Res Bool) : TT := fun σ H Q => ∃ G ρ, RS G K md σ ρ H ∧ Want (ExO G K md Wx) (f ρ) fun b ρ' => ∀ H', Fr σ ρ H H' → Sub ρ ρ' → RS G K md σ ρ' H' → Q b H'
def tVs (f : Env → Res (List PyData)) : TA := fun σ H Q => ∃ G ρ, RS G K md σ ρ H ∧ Want (ExO G K md Wx) (f ρ) fun ds ρ' => ∀ vs H', Fr σ ρ H H' → Sub ρ ρ' → RS G K md σ ρ' H' → Reps K H' vs ds → Q vs H'
end

/-- a slot's list is locked -/
theorem lock_slot {G : Gh} {K : PySem.W.Frag} {md : Rm} {σ : St} {ρ : Env} {H : Hp} {i : Nat} {d : PyData} {v : V} (R : RS G K md σ ρ H) (h : ρ[i]? = some (.own d)) (hv : σ[i]? = some (some v)) :
    ∃ a u, v = .ref a ∧ H a = some u ∧ Lkb u ∧ Owned σ ρ a ∧ ∀ o, Fr σ ρ H (upd H a (.frz o u)) ∧ RS G K md σ (ρ.set i (.val d)) (upd H a (.frz o u)) ∧ Rep K (upd H a (.frz o u)) v d := by
  obtain ⟨v', h1, a, u0, e1, h4, r⟩ := R.own i d h
  rw [hv] at h1; cases h1
  subst e1
  have ow : Owned σ ρ a := ⟨i, _, h, hv⟩
  have sub : Sub ρ (ρ.set i (.val d)) := Sub.set h (.lock _ _)
  refine ⟨a, u0, rfl, h4, r.lk, ow, fun o => ?_⟩
  have fr : Fr σ ρ H (upd H a (.frz o u0)) := ⟨fun b u e n _ => by
    rw [upd_ne (fun q => n (by rw [q]; exact ow))]; exact e, fun b e => by
    by_cases z : b = a
    · subst z; rw [upd_same] at e; cases e
    · rw [upd_ne z] at e; exact e⟩
  have x := R.ext fr
  have rp : Rep K (upd H a (.frz o u0)) (.ref a) d := (r.mono x).rep upd_same
  have hi : i < ρ.length := (List.getElem?_eq_some_iff.mp h).1
  refine ⟨fr, ⟨by rw [List.length_set]; exact R.len, fun j e q => ?_, fun j e q => ?_, fun j k b e f p q => ?_, fun j b e p q => ?_, fun b q => R.thr b (fr.2 b q), fun b u q n t => ?_, R.fix, fun j s q z => ?_, R.gl.upd h4 r.lk, fun Ha q => (R.anc Ha q).trans x⟩, rp⟩
  · by_cases hj : i = j
    · subst hj
      rw [List.getElem?_set_self hi] at q
      cases q
      exact ⟨_, hv, rp⟩
    · rw [List.getElem?_set_ne hj] at q
      obtain ⟨w, q1, q2⟩ := R.val j e q
      exact ⟨w, q1, q2.mono x⟩
  · by_cases hj : i = j
    · subst hj
      rw [List.getElem?_set_self hi] at q
      cases q
    · rw [List.getElem?_set_ne hj] at q
      obtain ⟨w, q1, b, u1, f1, q4, q5⟩ := R.own j e q
      subst f1
      have ne : b ≠ a := fun z => hj (R.dis i j a _ _ h q hv (by rw [q1, z]))
      exact ⟨_, q1, b, u1, rfl, by rw [upd_ne ne]; exact q4, q5.mono x⟩
  · obtain ⟨_, p'⟩ := sub.own p
    obtain ⟨_, q'⟩ := sub.own q
    exact R.dis j k b _ _ p' q'
  · obtain ⟨_, p'⟩ := sub.own p
    exact R.adr j b _ p' q
  · have q' := R.keep b u q n t
    by_cases z : b = a
    · subst z
      rcases R.adr' ow with y | y
      · exact absurd y n
      · rw [q] at y; cases y
    · rw [upd_ne z]; exact q'
  · by_cases hj : i = j
    · subst hj
      rw [List.getElem?_set_self hi] at q
      cases q
      cases z
    · rw [List.getElem?_set_ne hj] at q
      obtain ⟨w, q1, q2⟩ := R.oth j s q z
      exact ⟨w, q1, q2.mono x⟩
/-- raw to read -/
theorem PE.toR {X : Cx} {e : Expr} {md : Rm} {f : Env → Res EV} (h : PE X e (tE X.K md Wx f)) : PE X e (tR X.K md Wx f) := by
  refine PE.lock h fun σ H Q w => ?_
  obtain ⟨G, ρ, R, w⟩ := w
  refine ⟨G, ρ, R, w.mono fun x ρ' q v H' fr sb R' rep => ?_⟩
  cases x with
  | val d => exact .inl (q v H' fr sb R' rep)
  | al i => exact .inl (q v H' fr sb R' rep)
  | fr d =>
    obtain ⟨a, rfl, hn, a', u0, e1, h4, r⟩ := rep
    cases e1
    have lk := r.lk
    refine .inr ⟨a, u0, h4, lk, fun o => ?_⟩
    have nO : ¬ Owned σ ρ' a := fun z => R.fresh hn (sb.owned z)
    have fr' : Fr σ ρ H (upd H' a (.frz o u0)) := ⟨fun b u z n t => by
      have ne : b ≠ a := fun y => by rw [y, hn] at z; cases z
      rw [upd_ne ne]; exact fr.1 b u z n t, fun b e => by
      by_cases z : b = a
      · subst z; exact hn
      · rw [upd_ne z] at e; exact fr.2 b e⟩
    have ex : Ext H' (upd H' a (.frz o u0)) := ⟨fun b ys z => by rw [upd_ne (ne_of z h4 lk.tup)]; exact z, fun b o' u z => by rw [upd_ne (ne_of z h4 lk.frz)]; exact z, fun b u z => by rw [upd_ne (ne_of z h4 lk.xd)]; exact z, fun b C x u z => by rw [upd_ne (ne_of z h4 lk.ins)]; exact z⟩
    refine q _ _ fr' sb ?_ ((r.mono ex).rep upd_same)
    refine ⟨R'.len, fun j e z => ?_, fun j e z => ?_, R'.dis, R'.adr, fun b z => R.thr b (fr'.2 b z), fun b u z n t => ?_, R'.fix, fun j s z y => ?_, R'.gl.upd h4 lk, fun Ha q => (R'.anc Ha q).trans ex⟩
    · obtain ⟨w, z1, z2⟩ := R'.val j e z
      exact ⟨w, z1, z2.mono ex⟩
    · obtain ⟨w, z1, b, u1, f1, z4, z5⟩ := R'.own j e z
      subst f1
      have ne : b ≠ a := fun y => nO ⟨j, e, z, by rw [z1, y]⟩
      exact ⟨_, z1, b, u1, rfl, by rw [upd_ne ne]; exact z4, z5.mono ex⟩
    · have z' := R'.keep b u z n t
      by_cases y : b = a
      · subst y
        have y := R.thr _ hn
        rw [z] at y; cases y
      · rw [upd_ne y]; exact z'
    · obtain ⟨w, z1, z2⟩ := R'.oth j s z y
      exact ⟨w, z1, z2.mono ex⟩
/-- raw to data -/
theorem PE.toV {X : Cx} {e : Expr} {md : Rm} {f : Env → Res EV} (h : PE X e (tE X.K md Wx f)) : PE X e (tV X.K md Wx fun ρ => (f ρ).bind settle) := by
  refine PE.lock (PE.toR h) fun σ H Q w => ?_
  obtain ⟨G, ρ, R, w⟩ := w
  refine ⟨G, ρ, R, w.bind.mono fun x ρ' q v H' fr sb R' rep => ?_⟩
  cases x with
  | val d => exact .inl (q v H' fr sb R' rep)
  | fr d => exact .inl (q v H' fr sb R' rep)
  | al i =>
    have rep : σ[i]? = some (some v) := rep
    have q : Want _ (match ρ'[i]? with
      | some (.val d) => Res.ok d ρ'
      | some (.own d) => .ok d (ρ'.set i (.val d))
      | _ => .stuck) fun d ρ' => ∀ v H', Fr σ ρ H H' → Sub ρ ρ' → RS G X.K md σ ρ' H' → Rep X.K H' v d → Q v H' := q
    cases z : ρ'[i]? with
    | none => rw [z] at q; exact False.elim q
    | some s =>
      rw [z] at q
      cases s with
      | un => exact False.elim q
      | exc x => exact False.elim q
      | clo => exact False.elim q
      | val d =>
        obtain ⟨v', h1, h2⟩ := R'.val i d z
        rw [rep] at h1; cases h1
        exact .inl (q v H' fr sb R' h2)
      | own d =>
        obtain ⟨a, xs, rfl, h4, lk, ow, L⟩ := lock_slot R' z rep
        exact .inr ⟨a, xs, h4, lk, fun o => q _ _ (fr.trans sb (L o).1) (sb.trans (Sub.set z (.lock _ _))) (L o).2.1 (L o).2.2⟩
end Dn
/-! Den3: operations on values by data -/
namespace Dn
open PySem PySem.Spec PyProof.Rows L2

/-- a result: data, or a new list -/
def RepN (K : PySem.W.Frag) (H H' : Hp) (v : V) : EV → Prop
  | .val d => Rep K H' v d
  | .fr d => ∃ a, v = .ref a ∧ H a = none ∧ RepO K H' v d
  | .al _ => False
def Ex (H H' : Hp) : Prop := ∀ b u, H b = some u → H' b = some u
theorem Ex.refl (H : Hp) : Ex H H := fun _ _ h => h
theorem Ex.new {H : Hp} {p : Addr} {o : HO} (h : H p = none) : Ex H (upd H p o) := fun a u e => by
  rw [upd_ne (ne_of_none e h)]
  exact e
theorem Ex.ext {H H' : Hp} (e : Ex H H') : Ext H H' := ⟨fun b xs h => e b _ h, fun b o u h => e b _ h, fun b u h => e b _ h, fun b C x u h => e b _ h⟩
def RNew (K : PySem.W.Frag) (H : Hp) (Q : VK) (r : EV) : Prop := ∀ v H', Ex H H' → RepN K H H' v r → Q v H'
theorem RNew.list {K : PySem.W.Frag} {H : Hp} {Q : VK} {xs : List V} {ds : List PyData} (q : RNew K H Q (.fr (.list ds))) (r : Reps K H xs ds) : ∀ p, H p = none → Q (.ref p) (upd H p (.lst xs)) := fun p hp =>
  q _ _ (Ex.new hp) ⟨p, rfl, hp, p, _, rfl, upd_same, Cn.list (r.mono (Ex.new hp).ext)⟩
theorem RNew.tuple {K : PySem.W.Frag} {H : Hp} {Q : VK} {xs : List V} {ds : List PyData} (q : RNew K H Q (.val (.tuple ds))) (r : Reps K H xs ds) (n : isLib ds = false) : ∀ p, H p = none → Q (.ref p) (upd H p (.tup xs)) := fun p hp =>
  q _ _ (Ex.new hp) (.tup ⟨SqT.of upd_same, fun z => by rw [n] at z; cases z⟩ (r.mono (Ex.new hp).ext))
/-- a tuple that is just made -/
def NewT (H : Hp) (xs : List V) (Q : VK) : Prop := ∀ p o, H p = none → o.dict = none → Q (.ref p) (upd H p (.frz o (.tup xs)))
theorem RNew.tup {K : PySem.W.Frag} {H : Hp} {Q : VK} {xs : List V} {ds : List PyData} (q : RNew K H Q (.val (.tuple ds))) (r : Reps K H xs ds) : NewT H xs Q := fun p o hp hd =>
  q _ _ (Ex.new hp) (.tup ⟨.inl (.inr ⟨o, upd_same⟩), fun _ => .inl ⟨o, _, upd_same, hd⟩⟩ (r.mono (Ex.new hp).ext))
theorem RNew.here {K : PySem.W.Frag} {H : Hp} {Q : VK} {d : PyData} {v : V} (q : RNew K H Q (.val d)) (r : Rep K H v d) : Q v H := q _ _ (Ex.refl H) r
/-! ### tuples: the new object is known to be plain -/
section
variable {X : Cx}
theorem newT {σ : L2.St} {pins : List (Addr × Obj)} {H : Hp} {s : Shared} {xs : List V} {Q : VK} {its : List Value} (I : Inv X pins σ H s) (r : Vals xs its) (hz : xs.length ≤ sizeLine) (q : NewT H xs Q) : EP X pins σ Q (.ref s.heap.objs.size) { s with heap := s.heap.push { cls := .type "tuple", data := .seq its.toArray } } :=
  ⟨.ref s.heap.objs.size, _, I.laid (t' := s.toks) (o := .frz { cls := .type "tuple", data := .seq its.toArray } (.tup xs)) (fun b ob q => Heap.get?_push_of_some _ q) (Nat.le_refl _) ⟨Heap.get?_push_size _ rfl, hz, its, r, IsTup.new _ _⟩, rfl, q _ _ (I.hok.fresh (Nat.le_refl _)) rfl⟩
def rCatN (K : PySem.W.Frag) : R2 := fun x y H Q => ∃ a b xs ys, x = .ref a ∧ y = .ref b ∧ SqT K H a xs ∧ SqT K H b ys ∧ xs.length + ys.length ≤ sizeLine ∧ (xs = [] → Q (.ref b) H) ∧ (xs ≠ [] → ys = [] → Q (.ref a) H) ∧ (xs ≠ [] → ys ≠ [] → NewT H (xs ++ ys) Q)
theorem op_catN : OpR X (binaryOp .Add) (rCatN X.K) := by
  intro pins s σ H x y v u Q I rx ry h
  obtain ⟨a, b, xs, ys, rfl, rfl, ha, hb, hz, q0, q1, q2⟩ := h
  by_cases hx : xs = []
  · exact op_catA pins s σ H _ _ v u Q I rx ry ⟨a, b, xs, ys, rfl, rfl, ha, hb, hz, q0, fun z => absurd hx z, fun z => absurd hx z⟩
  by_cases hy : ys = []
  · exact op_catA pins s σ H _ _ v u Q I rx ry ⟨a, b, xs, ys, rfl, rfl, ha, hb, hz, q0, q1, fun _ z => absurd hy z⟩
  cases rx
  cases ry
  obtain ⟨its, r1, p1, _⟩ := I.tuple ha
  obtain ⟨its2, r2, p2, _⟩ := I.tuple hb
  exact HT.cat_tup p1 p2 (fun z => hx (r1.nil_iff.mp z)) (fun z => absurd (r2.nil_iff.mp z) hy) (fun _ => newT I (r1.append r2) (by rw [List.length_append]; exact hz) (q2 hx hy)) (by rw [← r1.length, ← r2.length]; exact hz)
theorem op_repN : OpR X (binaryOp .Mult) (fun x y H Q => ∃ l k xs, x = .ref l ∧ y = .int k ∧ SqT X.K H l xs ∧ xs ≠ [] ∧ 2 ≤ k ∧ k ≤ 1000 ∧ xs.length ≤ 1000 ∧ NewT H (List.replicate k.toNat xs).flatten Q) := by
  intro pins s σ H x y v u Q I rx ry h
  obtain ⟨l, k, xs, rfl, rfl, hT, hne, h1, h2, hz, q⟩ := h
  cases rx
  obtain ⟨t, rfl⟩ := ry
  obtain ⟨its, r, ⟨⟨cls, dd, data, sl⟩, ho, hc, n, hd⟩, hs⟩ := I.tuple hT
  simp only at hc hd
  subst hc hd
  have hle : its.length = xs.length := r.length.symm
  have hi : its.toArray.isEmpty = false := by
    cases its with
    | nil => exact absurd (List.eq_nil_of_length_eq_zero hle.symm) hne
    | cons a b => rfl
  have hsz0 : its.toArray.size = xs.length := by rw [List.size_toArray, hle]
  have hm : ((its.toArray.size : Nat) : Int) * k ≤ 1000000 := by
    rw [hsz0]
    have a1 : ((xs.length : Nat) : Int) * k ≤ 1000 * k := Int.mul_le_mul_of_nonneg_right (by omega) (by omega)
    omega
  have tot : k.toNat * xs.length ≤ sizeLine := by
    have a1 : k.toNat * xs.length ≤ 1000 * 1000 := Nat.mul_le_mul (by omega) hz
    rw [sizeLine_eq]
    omega
  have c0 : (decide (k < -(2 ^ 63)) || decide (k ≥ 2 ^ 63)) = false := by
    rw [decide_eq_false (by omega), decide_eq_false (by omega)] <;> rfl
  have c1 : (its.toArray.isEmpty || k == 1) = false := by
    rw [hi, Bool.false_or]
    exact beq_eq_false_iff_ne.mpr (by omega)
  have c2 : (decide (k ≤ 0) || its.toArray.isEmpty) = false := by
    rw [hi, Bool.or_false]
    exact decide_eq_false (by omega)
  have c4 : Builtin.Tuple.tupleTooMany (((its.toArray.size : Nat) : Int) * k) = false := by
    unfold Builtin.Tuple.tupleTooMany
    rw [sizeLine_eq]
    exact decide_eq_false (by omega)
  refine wpAny_binaryOp_repeat_ref (T := "tuple") (U := "int") (by decide) ⟨_, ho, rfl⟩ (fun s' => typeIs_int s' k t) noFill_tuple_mul F.fills_int_mul F.slot_int_rmul repeat_tuple F.slot_int_index.lookup
    (call_meets F.slot_int_rmul (typeIs_int s k t) F.entry_int_rmul (F.args_int_rmul_2 _ _) (int_rmul_tuple k t l its.toArray n dd sl)
      ⟨ho, rfl, ⟨_, ho, rfl⟩, call_meets F.slot_tuple_mul ⟨_, ho, rfl⟩ F.entry_tuple_mul (F.args_tuple_mul_2 _ _) (tuple_mulW l its.toArray n dd sl k t c0 c1 c2 (by omega) c4 (by rw [size_rep, List.size_toArray, PyProof.Rows.lm_len_rep_flat, hle]; exact tot)) ⟨ho, ?_⟩⟩)
  rw [size_rep]
  exact newT I (r.rep k.toNat) (by rw [PyProof.Rows.lm_len_rep_flat]; exact tot) q
def rSlN (K : PySem.W.Frag) : V → Option Int → Option Int → Hp → VK → Prop := fun x lo hi H Q => ∃ a xs, x = .ref a ∧ SqT K H a xs ∧
  (HT.sIx xs.length 0 lo = 0 ∧ HT.sIx xs.length xs.length hi = xs.length → Q (.ref a) H) ∧ (¬ (HT.sIx xs.length 0 lo = 0 ∧ HT.sIx xs.length xs.length hi = xs.length) → NewT H (cutV xs lo hi) Q)
theorem sl_tupN : SlR X (rSlN X.K) := by
  intro pins s σ H x v vl vu lo hi sl Q I rx hs pl pu h
  obtain ⟨a, xs, rfl, hx, q1, q2⟩ := h
  by_cases hw : HT.sIx xs.length 0 lo = 0 ∧ HT.sIx xs.length xs.length hi = xs.length
  · exact sl_tupA pins s σ H _ v vl vu lo hi sl Q I rx hs pl pu ⟨a, xs, rfl, hx, q1, fun z => absurd hw z⟩
  cases rx
  obtain ⟨its, r, ht, hz⟩ := I.tuple hx
  have hlen : its.toArray.size = xs.length := by rw [List.size_toArray]; exact r.length.symm
  refine ⟨"tuple", _, PyProof.Rows.slot_tuple_getitem.lookup, ht.typeIs, ?_⟩
  refine HT.getItem_tuple_cut ht hs pl pu (by rw [hlen]; exact hw) ?_ (by rw [hlen]; exact hz)
  rw [hlen]
  exact newT I ((r.drop (HT.sIx xs.length 0 lo)).take (HT.sIx xs.length xs.length hi - HT.sIx xs.length 0 lo)) (Nat.le_trans (cutV_length xs lo hi) hz) (q2 hw)
theorem call_tupleN : CallR X (.type "tuple") (fun xs H Q => ∃ p ys, xs = [.ref p] ∧ SqL X.K H p ys ∧ NewT H ys Q) := by
  intro pins s σ H xs us Q I r h
  obtain ⟨p, ys, rfl, hq, q⟩ := h
  obtain ⟨u, rfl, rx⟩ := vals1 r
  cases rx
  obtain ⟨its, r', pl, hz⟩ := I.list hq
  have hlen := r'.length
  refine call_tuple_list pl.isList (fun h' kp => ?_) (by simp only [List.size_toArray] <;> omega)
  have I1 : Inv X pins σ H { s with heap := h' } := I.kept (t' := s.toks) kp
  exact newT I1 r' hz q
def tTupN (t : TA) : TE := fun σ H Q => t σ H fun xs H1 => xs.length ≤ sizeLine ∧ NewT H1 xs Q
theorem pe_tupN {es : List Expr} {t : TA} {pos : Pos} {x1} (h : PA X es t) : PE X (.Tuple es x1 pos) (tTupN t) := by
  refine ⟨fun pins s σ H Q I hq => ?_⟩
  refine wpAny_Tuple_spliced (thn (h.run pos pins s σ H _ I hq) fun us s1 ⟨xs, H1, I1, r, z, q⟩ => ⟨by rw [← r.length]; exact z, ?_⟩)
  exact newT I1 r z q
end
theorem szl_eq : szl = sizeLine := by rw [sizeLine_eq]; rfl

section
variable {X : Cx}
def rCatL (K : PySem.W.Frag) : R2 := fun x y H Q => ∃ l b xs zs, x = .ref l ∧ y = .ref b ∧ SqL K H l xs ∧ SqL K H b zs ∧ xs.length + zs.length ≤ sizeLine ∧ ∀ p, H p = none → Q (.ref p) (upd H p (.lst (xs ++ zs)))
theorem op_catL : OpR X (binaryOp .Add) (rCatL X.K) := by
  intro pins s σ H x y v u Q I rx ry h
  obtain ⟨l, b, xs, zs, rfl, rfl, hH, hB, hz, q⟩ := h
  cases rx
  cases ry
  obtain ⟨its, r, ⟨o, n, ho, hc, _, hd⟩, _⟩ := I.list hH
  obtain ⟨its2, r2, ⟨o2, n2, ho2, hc2, _, hd2⟩, _⟩ := I.list hB
  obtain ⟨cls, dd, data, sl⟩ := o
  obtain ⟨cls2, dd2, data2, sl2⟩ := o2
  simp only at hc hd hc2 hd2
  subst hc hd hc2 hd2
  have h1 := r.length
  have h2 := r2.length
  refine concat_meets ⟨_, ho, rfl⟩ ⟨_, ho2, rfl⟩ noFill_list_add seq_list_add PySem.F.slot_list_add PySem.F.entry_list_add (PySem.F.args_list_add_2 _ _) (list_addW l b its.toArray its2.toArray n n2 dd dd2 sl sl2 (by simp only [List.size_toArray]; omega)) ⟨ho, ho2, ?_⟩
  have ea : its.toArray ++ its2.toArray = (its ++ its2).toArray := by simp
  rw [ea]
  exact ⟨.ref _, _, I.lnew (t' := s.toks) (r.append r2) (by rw [List.length_append]; omega), rfl, q _ I.fresh⟩

theorem Reps.rep {K : PySem.W.Frag} {H : Hp} {vs : List V} {ds : List PyData} (r : Reps K H vs ds) : ∀ n : Nat, Reps K H (List.replicate n vs).flatten (List.replicate n ds).flatten
  | 0 => .nil
  | n + 1 => by
    rw [List.replicate_succ, List.replicate_succ, List.flatten_cons, List.flatten_cons]
    exact r.append (Reps.rep r n)
/-- list * int -/
theorem op_repL : OpR X (binaryOp .Mult) (fun x y H Q => ∃ l k xs, x = .ref l ∧ y = .int k ∧ SqL X.K H l xs ∧ -(2 ^ 63) ≤ k ∧ k < 2 ^ 63 ∧ xs.length * k.toNat ≤ sizeLine ∧ ∀ p, H p = none → Q (.ref p) (upd H p (.lst (List.replicate k.toNat xs).flatten))) := by
  intro pins s σ H x y v u Q I rx ry h
  obtain ⟨l, k, xs, rfl, rfl, hH, h1, h2, hz, q⟩ := h
  cases rx
  obtain ⟨t, rfl⟩ := ry
  obtain ⟨its, r, ⟨⟨cls, dd, data, sl⟩, n, ho, hc, _, hd⟩, hl⟩ := I.list hH
  simp only at hc hd
  subst hc hd
  have hlen : its.toArray.size * k.toNat ≤ sizeLine := by rw [List.size_toArray, ← r.length]; exact hz
  have hcap : its.toArray.size * k.toNat ≤ 2 ^ 24 := by rw [sizeLine_eq] at hlen; exact hlen
  refine wpAny_binaryOp_repeat_ref (T := "list") (U := "int") (by decide) ⟨_, ho, rfl⟩ (fun s' => typeIs_int s' k t) noFill_list_mul PySem.F.fills_int_mul PySem.F.slot_int_rmul repeat_list PySem.F.slot_int_index.lookup
    (call_meets PySem.F.slot_int_rmul (typeIs_int s k t) PySem.F.entry_int_rmul (PySem.F.args_int_rmul_2 _ _) (lm_int_rmul_list_any k t l its.toArray n dd sl)
      ⟨ho, rfl, ⟨_, ho, rfl⟩, call_meets PySem.F.slot_list_mul ⟨_, ho, rfl⟩ PySem.F.entry_list_mul (PySem.F.args_list_mul_2 _ _)
        (lm_list_mul_any l its.toArray n dd sl k t (by simp [Builtin.List.listFitsIndex]; omega) (by omega) (by simp [Builtin.List.listTooLong, sizeLine]; omega)) ⟨ho, ?_⟩⟩)
  rw [listMul_foldl_if]
  exact ⟨.ref _, _, I.lnew (t' := s.toks) (r.rep k.toNat) (by rw [PyProof.Rows.lm_len_rep_flat, Nat.mul_comm]; exact hz), rfl, q _ I.fresh⟩
/-! ### two-place operators -/
def bop : BOp → Operator
  | .add => .Add | .sub => .Sub | .mul => .Mult | .fdiv => .FloorDiv | .mod => .Mod | .pow => .Pow
def rBin (K : PySem.W.Frag) (o : BOp) : R2 := fun x y H Q => ∃ dx dy r, RdD K H x dx ∧ RdD K H y dy ∧ binD o dx dy = some r ∧ RNew K H Q r
theorem op_bin (o : BOp) : OpR X (binaryOp (bop o)) (rBin X.K o) := by
  intro pins s σ H x y v u Q I rx ry h
  obtain ⟨dx, dy, r, hx, hy, e, q⟩ := h
  cases o with
  | add =>
    cases dx with
    | int a =>
      cases dy with
      | int b =>
        cases e
        cases hx; cases hy
        exact op_add pins s σ H _ _ v u Q I rx ry ⟨a, b, rfl, rfl, q.here (.int _)⟩
      | _ => cases e
    | str a =>
      cases dy with
      | str b =>
        by_cases hz : a.length + b.length ≤ szl
        · have e' : some (EV.val (.str (a ++ b))) = some r := by rw [← e]; exact (if_pos hz).symm
          cases e'
          cases hx; cases hy
          exact op_add_str pins s σ H _ _ v u Q I rx ry ⟨a, b, rfl, rfl, by rw [← szl_eq]; exact hz, q.here (.str _)⟩
        · have e' : none = some r := by rw [← e]; exact (if_neg hz).symm
          cases e'
      | _ => cases e
    | list a =>
      cases dy with
      | list b =>
        by_cases hz : a.length + b.length ≤ szl
        · have e' : some (EV.fr (.list (a ++ b))) = some r := by rw [← e]; exact (if_pos hz).symm
          cases e'
          obtain ⟨p, xs, rfl, h1, r1⟩ := hx
          obtain ⟨p2, zs, rfl, h2, r2⟩ := hy
          exact op_catL pins s σ H _ _ v u Q I rx ry ⟨p, p2, xs, zs, rfl, rfl, h1, h2, by rw [r1.length, r2.length, ← szl_eq]; exact hz, q.list (r1.append r2)⟩
        · have e' : none = some r := by rw [← e]; exact (if_neg hz).symm
          cases e'
      | _ => cases e
    | tuple a =>
      cases dy with
      | tuple b =>
        by_cases hz : a.length + b.length ≤ szl
        · have e' : some (EV.val (.tuple (a ++ b))) = some r := by rw [← e]; exact (if_pos hz).symm
          cases e'
          obtain ⟨p, xs, rfl, h1, r1⟩ := hx
          obtain ⟨p2, zs, rfl, h2, r2⟩ := hy
          refine op_catN pins s σ H _ _ v u Q I rx ry ⟨p, p2, xs, zs, rfl, rfl, h1.1, h2.1, by rw [r1.length, r2.length, ← szl_eq]; exact hz, fun z => ?_, fun _ z => ?_, fun _ _ => q.tup (r1.append r2)⟩
          · subst z
            cases r1
            exact q.here (.tup h2 r2)
          · subst z
            cases r2
            rw [List.append_nil] at q
            exact q.here (.tup h1 r1)
        · have e' : none = some r := by rw [← e]; exact (if_neg hz).symm
          cases e'
      | _ => cases e
    | _ => cases dy <;> cases e
  | sub =>
    cases dx with
    | int a =>
      cases dy with
      | int b =>
        cases e
        cases hx; cases hy
        exact op_sub pins s σ H _ _ v u Q I rx ry ⟨a, b, rfl, rfl, q.here (.int _)⟩
      | _ => cases e
    | _ => cases dy <;> cases e
  | mul =>
    cases dx with
    | int a =>
      cases dy with
      | int b =>
        by_cases hz : (-(2 ^ 64) < a ∧ a < 2 ^ 64) ∨ (-(2 ^ 64) < b ∧ b < 2 ^ 64)
        · have e' : some (EV.val (.int (a * b))) = some r := by rw [← e]; exact (if_pos hz).symm
          cases e'
          cases hx; cases hy
          exact op_mul pins s σ H _ _ v u Q I rx ry ⟨a, b, rfl, rfl, hz, q.here (.int _)⟩
        · have e' : none = some r := by rw [← e]; exact (if_neg hz).symm
          cases e'
      | _ => cases e
    | list a =>
      cases dy with
      | int k =>
        by_cases hz : 0 ≤ k ∧ k < 2 ^ 62 ∧ a.length * k.toNat ≤ szl
        · have e' : some (EV.fr (.list (List.replicate k.toNat a).flatten)) = some r := by rw [← e]; exact (if_pos hz).symm
          cases e'
          obtain ⟨p, xs, rfl, h1, r1⟩ := hx
          cases (show y = V.int k from hy)
          exact op_repL pins s σ H _ _ v u Q I rx ry ⟨p, k, xs, rfl, rfl, h1, by omega, by omega, by rw [r1.length, ← szl_eq]; exact hz.2.2, q.list (r1.rep _)⟩
        · have e' : none = some r := by rw [← e]; exact (if_neg hz).symm
          cases e'
      | _ => cases e
    | tuple a =>
      cases dy with
      | int k =>
        by_cases hz : a ≠ [] ∧ 2 ≤ k ∧ k ≤ 1000 ∧ a.length ≤ 1000
        · have e' : some (EV.val (.tuple (List.replicate k.toNat a).flatten)) = some r := by rw [← e]; exact (if_pos hz).symm
          cases e'
          obtain ⟨p, xs, rfl, h1, r1⟩ := hx
          cases (show y = V.int k from hy)
          exact op_repN pins s σ H _ _ v u Q I rx ry ⟨p, k, xs, rfl, rfl, h1.1, fun z => hz.1 (by subst z; cases r1; rfl), hz.2.1, hz.2.2.1, by rw [r1.length]; exact hz.2.2.2, q.tup (r1.rep _)⟩
        · have e' : none = some r := by rw [← e]; exact (if_neg hz).symm
          cases e'
      | _ => cases e
    | _ => cases dy <;> cases e
  | fdiv =>
    cases dx with
    | int a =>
      cases dy with
      | int b =>
        by_cases hz : 0 < b ∧ b < 1073741824
        · have e' : some (EV.val (.int (a / b))) = some r := by rw [← e]; exact (if_pos hz).symm
          cases e'
          cases hx; cases hy
          exact op_fdiv pins s σ H _ _ v u Q I rx ry ⟨a, b, rfl, rfl, hz, q.here (.int _)⟩
        · have e' : none = some r := by rw [← e]; exact (if_neg hz).symm
          cases e'
      | _ => cases e
    | _ => cases dy <;> cases e
  | mod =>
    cases dx with
    | int a =>
      cases dy with
      | int b =>
        by_cases hz : 0 < b
        · have e' : some (EV.val (.int (a % b))) = some r := by rw [← e]; exact (if_pos hz).symm
          cases e'
          cases hx; cases hy
          exact op_mod pins s σ H _ _ v u Q I rx ry ⟨a, b, rfl, rfl, hz, q.here (.int _)⟩
        · have e' : none = some r := by rw [← e]; exact (if_neg hz).symm
          cases e'
      | _ => cases e
    | _ => cases dy <;> cases e
  | pow =>
    cases dx with
    | int a =>
      cases dy with
      | int b =>
        by_cases hz : 0 ≤ b ∧ b ≤ 1000000 ∧ a.natAbs < 2 ^ 64
        · have e' : some (EV.val (.int (a ^ b.toNat))) = some r := by rw [← e]; exact (if_pos hz).symm
          cases e'
          cases hx; cases hy
          exact op_pow pins s σ H _ _ v u Q I rx ry ⟨a, b, rfl, rfl, hz, q.here (.int _)⟩
        · have e' : none = some r := by rw [← e]; exact (if_neg hz).symm
          cases e'
      | _ => cases e
    | _ => cases dy <;> cases e
/-! ### comparisons -/
def cop : COp → CmpOp
  | .eq => .Eq | .ne => .NotEq | .lt => .Lt | .le => .LtE | .gt => .Gt | .ge => .GtE | .isin => .In | .notin => .NotIn | .is => .Is | .isnot => .IsNot
def rCmpD (K : PySem.W.Frag) (o : COp) : R2 := fun x y H Q => ∃ dx dy b, RdD K H x dx ∧ RdD K H y dy ∧ cmpD o dx dy = some b ∧ Q (.bl b) H
theorem RdD.reads {pins : List (Addr × Obj)} {σ : St} {H : Hp} {s : Shared} {v : V} {u : Value} {d : PyData} (I : Inv X pins σ H s) (h : RdD X.K H v d) (n : d.hasDict = false) (r : RelV v u) : ∃ as, Reads s.heap u d as := Dp.reads I d v u (h.dp n) r
theorem RdD.flat {K : PySem.W.Frag} {H : Hp} {v : V} {d : PyData} (h : RdD K H v d) (f : flatD d = true) : flatV v = true := by
  cases d with
  | none => cases (show v = V.non from h); rfl
  | bool b => cases (show v = V.bl b from h); rfl
  | int i => cases (show v = V.int i from h); rfl
  | str x => cases (show v = V.str x from h); rfl
  | _ => cases f
theorem eqV_eqv {K : PySem.W.Frag} {H : Hp} {v w : V} {d e : PyData} (h : RdD K H v d) (h' : RdD K H w e) (f : flatD d = true) (f' : flatD e = true) : eqV v w = PyData.eqv d e := by
  cases d with
  | none => cases (show v = V.non from h); cases e with
    | none => cases (show w = V.non from h'); rfl
    | bool b => cases (show w = V.bl b from h'); rfl
    | int i => cases (show w = V.int i from h'); rfl
    | str x => cases (show w = V.str x from h'); rfl
    | _ => cases f'
  | bool b => cases (show v = V.bl b from h); cases e with
    | none => cases (show w = V.non from h'); rfl
    | bool b => cases (show w = V.bl b from h'); simp [eqV, PyData.eqv]
    | int i => cases (show w = V.int i from h'); simp [eqV, PyData.eqv]
    | str x => cases (show w = V.str x from h'); rfl
    | _ => cases f'
  | int i => cases (show v = V.int i from h); cases e with
    | none => cases (show w = V.non from h'); rfl
    | bool b => cases (show w = V.bl b from h'); simp [eqV, PyData.eqv]
    | int i => cases (show w = V.int i from h'); simp [eqV, PyData.eqv]
    | str x => cases (show w = V.str x from h'); rfl
    | _ => cases f'
  | str x => cases (show v = V.str x from h); cases e with
    | none => cases (show w = V.non from h'); rfl
    | bool b => cases (show w = V.bl b from h'); rfl
    | int i => cases (show w = V.int i from h'); rfl
    | str x => cases (show w = V.str x from h'); simp [eqV, PyData.eqv]
    | _ => cases f'
  | _ => cases f
theorem inV_any {K : PySem.W.Frag} {H : Hp} {v : V} {d : PyData} (h : RdD K H v d) (f : flatD d = true) : ∀ {xs : List V} {ds : List PyData}, Reps K H xs ds → ds.all flatD = true → xs.all flatV = true ∧ inV v xs = ds.any fun y => PyData.eqv y d
  | _, _, .nil, _ => ⟨rfl, rfl⟩
  | _, _, .cons r rs, hf => by
    rw [List.all_cons, Bool.and_eq_true] at hf
    obtain ⟨h1, h2⟩ := inV_any h f rs hf.2
    refine ⟨by rw [List.all_cons, h1, (Rep.rd r).flat hf.1]; rfl, ?_⟩
    unfold inV at h2 ⊢
    rw [List.any_cons, List.any_cons, h2, eqV_eqv (Rep.rd r) h hf.1 f]
theorem eqT_inv {d e : PyData} {b : Bool} (h : eqT d e = some b) : ∃ x y, d = .str x ∧ e = .str y ∧ b = (x == y) := by
  cases d <;> cases e <;> first | (cases h; exact ⟨_, _, rfl, rfl, rfl⟩) | cases h
theorem dec_txt {x y : Str} : decide (V.str x = V.str y) = (x == y) := by
  by_cases h : x = y
  · subst h
    rw [decide_eq_true rfl, beq_self_eq_true]
  · rw [decide_eq_false (fun q => h (V.str.inj q)), beq_eq_false_iff_ne.mpr h]
theorem op_eqW (hu : X.A.units + 64 < cLine) {neg : Bool} : OpR X (compareOp (if neg then .NotEq else .Eq)) (fun x y H Q => ∃ dx dy b, RdD X.K H x dx ∧ RdD X.K H y dy ∧ eqD dx dy = some b ∧ Q (.bl (if neg then !b else b)) H) := by
  intro pins s σ H x y v u Q I rx ry h
  obtain ⟨d, e, b, hd, he, eq, q⟩ := h
  unfold eqD at eq
  cases z : eqT d e with
  | some r =>
    rw [z] at eq
    cases eq
    obtain ⟨t1, t2, rfl, rfl, rfl⟩ := eqT_inv z
    cases hd; cases he
    cases neg with
    | false => exact op_eq pins s σ H _ _ v u Q I rx ry ⟨rfl, by rw [dec_txt]; exact q⟩
    | true => exact op_ne pins s σ H _ _ v u Q I rx ry ⟨rfl, by rw [dec_txt]; exact q⟩
  | none =>
    rw [z] at eq
    by_cases hc : d.canLay0 = true ∧ e.canLay0 = true ∧ min d.depth e.depth ≤ 64
    · have e' : some (PyData.eqv d e) = some b := by rw [← eq]; exact (if_pos hc).symm
      cases e'
      obtain ⟨as, r1⟩ := hd.reads I (PyData.hasDict_of_canLay _ hc.1) rx
      obtain ⟨bs, r2⟩ := he.reads I (PyData.hasDict_of_canLay _ hc.2.1) ry
      cases neg with
      | false => exact SeqAt.compareEq_reads r1 r2 hc.1 hc.2.1 (by omega) ⟨.bl _, H, I, rfl, q⟩
      | true => exact SeqAt.compareNe_reads r1 r2 hc.1 hc.2.1 (by omega) ⟨.bl _, H, I, rfl, q⟩
    · have e' : none = some b := by rw [← eq]; exact (if_neg hc).symm
      cases e'
theorem op_inW (hu : X.A.units + 65 < cLine) {neg : Bool} : OpR X (compareOp (if neg then .NotIn else .In)) (fun x y H Q => ∃ dx dy b, RdD X.K H x dx ∧ RdD X.K H y dy ∧ inD dx dy = some b ∧ Q (.bl (if neg then !b else b)) H) := by
  intro pins s σ H x y v u Q I rx ry h
  obtain ⟨d, e, b, hd, he, eq, q⟩ := h
  cases e with
  | str j =>
    cases d with
    | str i =>
      cases eq
      cases hd; cases he
      cases neg with
      | false => exact op_in_str pins s σ H _ _ v u Q I rx ry ⟨i, j, rfl, rfl, q⟩
      | true => exact op_notin_str pins s σ H _ _ v u Q I rx ry ⟨i, j, rfl, rfl, q⟩
    | _ => cases eq
  | list l =>
    by_cases hc : SeqAt.shaped d = true ∧ SeqAt.shaped (.list l) = true
    · have e' : some (l.any fun y => PyData.eqv y d) = some b := by rw [← eq]; exact (if_pos hc).symm
      cases e'
      cases neg with
      | false => exact op_inD hu pins s σ H _ _ v u Q I rx ry ⟨d, l, hd.dp (PyData.hasDict_of_canLay _ (SeqAt.canLay_of_shaped hc.1)), he.dp (PyData.hasDict_of_canLay _ (SeqAt.canLay_of_shaped hc.2)), hc.1, hc.2, q⟩
      | true => exact op_notInD hu pins s σ H _ _ v u Q I rx ry ⟨d, l, hd.dp (PyData.hasDict_of_canLay _ (SeqAt.canLay_of_shaped hc.1)), he.dp (PyData.hasDict_of_canLay _ (SeqAt.canLay_of_shaped hc.2)), hc.1, hc.2, q⟩
    · have e' : none = some b := by rw [← eq]; exact (if_neg hc).symm
      cases e'
  | tuple l =>
    by_cases hc : flatD d = true ∧ l.all flatD = true
    · have e' : some (l.any fun y => PyData.eqv y d) = some b := by rw [← eq]; exact (if_pos hc).symm
      cases e'
      obtain ⟨p, xs, rfl, h1, r1⟩ := he
      obtain ⟨f1, f2⟩ := inV_any hd hc.1 r1 hc.2
      cases neg with
      | false => exact op_in_seq pins s σ H _ _ v u Q I rx ry ⟨p, xs, rfl, .inr h1.1, hd.flat hc.1, f1, by rw [f2]; exact q⟩
      | true => exact op_notIn_seq pins s σ H _ _ v u Q I rx ry ⟨p, xs, rfl, .inr h1.1, hd.flat hc.1, f1, by rw [f2]; exact q⟩
    · have e' : none = some b := by rw [← eq]; exact (if_neg hc).symm
      cases e'
  | dict kvs =>
    by_cases nI : isIns kvs = true
    · have e' : none = some b := by rw [← eq]; exact (if_pos nI).symm
      cases e'
    have eq : (keyOf d).map (fun k => (findK k kvs).isSome) = some b := by rw [← eq]; exact (if_neg nI).symm
    obtain ⟨k, ek, eb⟩ := Option.map_eq_some_iff.mp eq
    subst eb
    obtain rfl := keyOf_inv ek
    obtain ⟨a, ps, rfl, h1, r⟩ := he.dct (Bool.eq_false_iff.mpr nI)
    have ey : x = kV k := by cases k <;> exact hd
    cases (show u = Value.ref a from ry)
    have g : DGet H a x (valV ps k) := .inl ⟨ps, k, h1, ey, rfl⟩
    rw [r.isSome] at q
    cases neg with
    | false => exact d_in (by omega) I g rx fun s' I' => ⟨.bl _, H, I', rfl, q⟩
    | true => exact d_notIn (by omega) I g rx fun s' I' => ⟨.bl _, H, I', rfl, q⟩
  | _ => cases eq
theorem non_iff {K : PySem.W.Frag} {H : Hp} {v : V} {d : PyData} (h : RdD K H v d) : decide (v = .non) = isNone d := by
  cases d with
  | none => cases (show v = V.non from h); rfl
  | bool b => cases (show v = V.bl b from h); rfl
  | int i => cases (show v = V.int i from h); rfl
  | str x => cases (show v = V.str x from h); rfl
  | list l => obtain ⟨a, xs, rfl, _⟩ := h; rfl
  | tuple l => obtain ⟨a, xs, rfl, _⟩ := h; rfl
  | dict l => obtain ⟨a, rfl, _⟩ := h; rfl
theorem op_isW {neg : Bool} : OpR X (compareOp (if neg then .IsNot else .Is)) (fun x y H Q => ∃ dx dy b, RdD X.K H x dx ∧ RdD X.K H y dy ∧ isD dx dy = some b ∧ Q (.bl (if neg then !b else b)) H) := by
  intro pins s σ H x y v u Q I rx ry h
  obtain ⟨d, e, b, hd, he, eq, q⟩ := h
  cases e with
  | none =>
    cases eq
    cases (show y = V.non from he)
    rw [← non_iff hd] at q
    cases neg with
    | false => exact op_isN pins s σ H _ _ v u Q I rx ry ⟨rfl, q⟩
    | true => exact op_notN pins s σ H _ _ v u Q I rx ry ⟨rfl, q⟩
  | bool c =>
    cases d with
    | bool a =>
      cases eq
      cases hd; cases he
      rw [show (a == c) = decide (a = c) by cases a <;> cases c <;> rfl] at q
      cases neg with
      | false => exact op_isBl pins s σ H _ _ v u Q I rx ry ⟨a, c, rfl, rfl, q⟩
      | true => exact op_notBl pins s σ H _ _ v u Q I rx ry ⟨a, c, rfl, rfl, q⟩
    | _ => cases eq
  | _ => cases eq
theorem op_cmp (hu : X.A.units + 65 < cLine) (o : COp) : OpR X (compareOp (cop o)) (rCmpD X.K o) := by
  intro pins s σ H x y v u Q I rx ry h
  obtain ⟨dx, dy, b, hx, hy, e, q⟩ := h
  have I2 : ∀ {i j : Int}, dx = .int i → dy = .int j → x = .int i ∧ y = .int j := fun {i j} e1 e2 => by
    subst e1 e2
    exact ⟨hx, hy⟩
  cases o with
  | eq => exact op_eqW (by omega) (neg := false) pins s σ H x y v u Q I rx ry ⟨dx, dy, b, hx, hy, e, q⟩
  | ne =>
    obtain ⟨b', e1, e2⟩ := Option.map_eq_some_iff.mp e
    subst e2
    exact op_eqW (by omega) (neg := true) pins s σ H x y v u Q I rx ry ⟨dx, dy, b', hx, hy, e1, q⟩
  | isin => exact op_inW hu (neg := false) pins s σ H x y v u Q I rx ry ⟨dx, dy, b, hx, hy, e, q⟩
  | notin =>
    obtain ⟨b', e1, e2⟩ := Option.map_eq_some_iff.mp e
    subst e2
    exact op_inW hu (neg := true) pins s σ H x y v u Q I rx ry ⟨dx, dy, b', hx, hy, e1, q⟩
  | is => exact op_isW (neg := false) pins s σ H x y v u Q I rx ry ⟨dx, dy, b, hx, hy, e, q⟩
  | isnot =>
    obtain ⟨b', e1, e2⟩ := Option.map_eq_some_iff.mp e
    subst e2
    exact op_isW (neg := true) pins s σ H x y v u Q I rx ry ⟨dx, dy, b', hx, hy, e1, q⟩
  | lt =>
    cases dx with
    | int i =>
      cases dy with
      | int j => cases e; obtain ⟨rfl, rfl⟩ := I2 rfl rfl; exact op_lt pins s σ H _ _ v u Q I rx ry ⟨i, j, rfl, rfl, q⟩
      | _ => cases e
    | _ => cases dy <;> cases e
  | le =>
    cases dx with
    | int i =>
      cases dy with
      | int j => cases e; obtain ⟨rfl, rfl⟩ := I2 rfl rfl; exact op_le pins s σ H _ _ v u Q I rx ry ⟨i, j, rfl, rfl, q⟩
      | _ => cases e
    | _ => cases dy <;> cases e
  | gt =>
    cases dx with
    | int i =>
      cases dy with
      | int j => cases e; obtain ⟨rfl, rfl⟩ := I2 rfl rfl; exact op_gt pins s σ H _ _ v u Q I rx ry ⟨i, j, rfl, rfl, q⟩
      | _ => cases e
    | _ => cases dy <;> cases e
  | ge =>
    cases dx with
    | int i =>
      cases dy with
      | int j => cases e; obtain ⟨rfl, rfl⟩ := I2 rfl rfl; exact op_ge pins s σ H _ _ v u Q I rx ry ⟨i, j, rfl, rfl, q⟩
      | _ => cases e
    | _ => cases dy <;> cases e

/-! ### truth, length, items, slices -/
theorem RdD.tru {K : PySem.W.Frag} {H : Hp} {v : V} {d : PyData} {k : Bool} (h : RdD K H v d) (e : truthy d = some k) : TruV K v H k := by
  cases d with
  | none => cases (show v = V.non from h); cases e; rfl
  | bool b => cases (show v = V.bl b from h); cases e; rfl
  | int i => cases (show v = V.int i from h); cases e; rfl
  | str x =>
    cases (show v = V.str x from h)
    by_cases hz : x.length ≤ szl
    · have e' : some ((x.length : Int) != 0) = some k := by rw [← e]; exact (if_pos hz).symm
      cases e'
      exact ⟨by rw [← szl_eq]; exact hz, rfl⟩
    · have e' : none = some k := by rw [← e]; exact (if_neg hz).symm
      cases e'
  | list l =>
    obtain ⟨a, xs, rfl, h1, r⟩ := h
    cases e
    refine .inl ⟨xs, h1, ?_⟩
    cases r <;> rfl
  | tuple l =>
    obtain ⟨a, xs, rfl, h1, r⟩ := h
    cases e
    refine .inr (.inl ⟨xs, h1.1, ?_⟩)
    cases r <;> rfl
  | dict l => cases e
theorem ixN_lt {n : Nat} {i : Int} {j : Nat} (h : ixN n i = some j) : j < n := (ixN_seq h).2.1
theorem atI_reps {K : PySem.W.Frag} {H : Hp} {xs : List V} {ds : List PyData} {i : Int} {d : PyData} (r : Reps K H xs ds) (e : atI ds i = some d) : ∃ v, atI xs i = some v ∧ Rep K H v d := by
  unfold atI at e ⊢
  rw [r.length]
  cases q : ixN ds.length i with
  | none => rw [q] at e; cases e
  | some j =>
    rw [q] at e
    exact r.get e
def rIdx (K : PySem.W.Frag) : R2 := fun x y H Q => ∃ dx dy d, RdD K H x dx ∧ RdD K H y dy ∧ idxD dx dy = some d ∧ RNew K H Q (.val d)
/-- an item by the type's own slot -/
theorem ix_sub {value slice : Expr} {s : Shared} {o i : Value} {T id : String} {Q : Value → Shared → Prop} {E : Value → Shared → Prop} (look : typeLookup (.type T) "__getitem__" = pure (some (.builtin id))) (is : s.TypeIs o T)
    (plain : subscripted slice false o i = operate [o, i] (getItem o i)) (h : wpAny (model X.prog X.w) X.A (getItem o i) Q E s) : wpAny (model X.prog X.w) X.A (subscriptTail value slice o i) Q E s := by
  have last : wpAny (model X.prog X.w) X.A (subscripted slice false o i) (fun r s' => wpAny (model X.prog X.w) X.A (letTemporaryGo value o r >>= fun _ => pure r) Q E s') E s := by
    rw [plain]
    exact wpAny_operating (wpAny_mono h (fun r s' z => wpAny_bind (wpAny_letTemporaryGo (wpAny_pure z))) fun _ _ z => z)
  unfold subscriptTail
  apply wpAny_bind
  rw [getitemInPython_of_ne is.not_modules]
  apply wpAny_bind
  apply wpAny_specialOf is look
  first
    | exact wpAny_pure (wpAny_bind last)
    | exact wpAny_bind last
    | exact wpAny_bind (wpAny_pure (wpAny_bind last))
theorem dk_get {pins : List (Addr × Obj)} {σ : St} {H : Hp} {s : Shared} {a : Addr} {ps : List (Key × V)} {k : Key} {y w : V} {u : Value} {Q : Value → Shared → Prop} {E : Value → Shared → Prop} (I : Inv X pins σ H s) (h : Rd H a (.dK ps)) (ey : y = kV k) (hw : valV ps k = some w) (ry : RelV y u)
    (q : ∀ w' s', Inv X pins σ H s' → RelV w w' → Q w' s') : wpAny (model X.prog X.w) X.A (getItem (.ref a) u) Q E s := by
  subst ey
  obtain ⟨_, _, vs, rel, dd⟩ := dk_rd I.hok h
  obtain ⟨w', e, r'⟩ := RelO.some_of (v := w) (o := valueAt vs k) (by rw [← hw]; exact rel.val k)
  exact wpAny_getItem_of (kV_is ry) dd.mapOf e (q w' _ (I.tok _) r')
theorem ix_data : IxR X (rIdx X.K) := by
  have key : ∀ x y H Q, (∃ dx dy d, RdD X.K H x dx ∧ RdD X.K H y dy ∧ idxD dx dy = some d ∧ RNew X.K H Q (.val d) ∧ ∀ kvs, dx ≠ .dict kvs) → rIx X.K x y H Q := fun x y H Q h => by
    obtain ⟨dx, dy, d, hx, hy, e, q, nd⟩ := h
    cases dx with
    | list l =>
      cases dy with
      | int i =>
        obtain ⟨p, xs, rfl, h1, r1⟩ := hx
        cases (show y = V.int i from hy)
        obtain ⟨v, e1, r2⟩ := atI_reps r1 e
        exact .inl ⟨p, xs, i, v, rfl, rfl, h1, e1, q.here r2⟩
      | _ => cases e
    | tuple l =>
      cases dy with
      | int i =>
        obtain ⟨p, xs, rfl, h1, r1⟩ := hx
        cases (show y = V.int i from hy)
        obtain ⟨v, e1, r2⟩ := atI_reps r1 e
        exact .inr (.inl ⟨p, xs, i, v, rfl, rfl, h1.1, e1, q.here r2⟩)
      | _ => cases e
    | str z =>
      cases dy with
      | int i =>
        cases (show x = V.str z from hx)
        cases (show y = V.int i from hy)
        by_cases hz : z.length ≤ szl
        · have e' : (atI z.cps.toList i).map (fun c => PyData.str ⟨#[c]⟩) = some d := by rw [← e]; exact (if_pos hz).symm
          obtain ⟨c, e1, e2⟩ := Option.map_eq_some_iff.mp e'
          subst e2
          exact .inr (.inr ⟨z, i, c, rfl, rfl, by rw [← szl_eq]; exact hz, e1, q.here (.str _)⟩)
        · have e' : none = some d := by rw [← e]; exact (if_neg hz).symm
          cases e'
      | _ => cases e
    | dict kvs => exact absurd rfl (nd kvs)
    | _ => cases dy <;> cases e
  intro value slice pins s σ H x y v u Q I rx ry h hs
  obtain ⟨dx, dy, d, hx, hy, e, q⟩ := h
  by_cases nd : ∃ kvs, dx = .dict kvs
  · obtain ⟨kvs, rfl⟩ := nd
    have e : (if isIns kvs = true then none else (keyOf dy).bind fun k => findK k kvs) = some d := by rw [← e]; cases dy <;> rfl
    by_cases nI : isIns kvs = true
    · rw [if_pos nI] at e
      cases e
    rw [if_neg nI] at e
    obtain ⟨k, ek, ef⟩ := Option.bind_eq_some_iff.mp e
    obtain rfl := keyOf_inv ek
    obtain ⟨a, ps, rfl, h1, r⟩ := hx.dct (Bool.eq_false_iff.mpr nI)
    have ey : y = kV k := by cases k <;> exact hy
    cases (show v = Value.ref a from rx)
    obtain ⟨w, hw, rw'⟩ := (r.find k).1 d ef
    have g : DGet H a y (some w) := .inl ⟨ps, k, h1, ey, hw.symm⟩
    exact ix_sub PySem.F.slot_dict_getitem.lookup (dict_typeIs I g) hs (dk_get I h1 ey hw ry fun w' s' I' r' => ⟨w, H, I', r', q.here rw'⟩)
  · exact ix_seq value slice pins s σ H x y v u Q I rx ry (key _ _ _ _ ⟨dx, dy, d, hx, hy, e, q, fun kvs z => nd ⟨kvs, z⟩⟩) hs
def rSl (K : PySem.W.Frag) : V → Option Int → Option Int → Hp → VK → Prop := fun x lo hi H Q => ∃ dx r, RdD K H x dx ∧ slD dx lo hi = some r ∧ RNew K H Q r
theorem sl_data : SlR X (rSl X.K) := by
  intro pins s σ H x v vl vu lo hi sl Q I rx hs pl pu h
  obtain ⟨dx, r, hx, e, q⟩ := h
  cases dx with
  | list l =>
    cases e
    obtain ⟨p, xs, rfl, h1, r1⟩ := hx
    exact sl_list pins s σ H _ v vl vu lo hi sl Q I rx hs pl pu ⟨p, xs, rfl, h1, q.list (r1.cut lo hi)⟩
  | tuple l =>
    cases e
    obtain ⟨p, xs, rfl, h1, r1⟩ := hx
    refine sl_tupN pins s σ H _ v vl vu lo hi sl Q I rx hs pl pu ⟨p, xs, rfl, h1.1, fun z => ?_, fun _ => q.tup (r1.cut lo hi)⟩
    have e1 : cutL l lo hi = l := by
      unfold cutL
      rw [← r1.length, z.1, z.2, r1.length, List.drop_zero, Nat.sub_zero, List.take_length]
    rw [e1] at q
    exact q.here (.tup h1 r1)
  | str z =>
    by_cases hz : z.length ≤ szl
    · have e' : some (EV.val (.str ⟨(cutL z.cps.toList lo hi).toArray⟩)) = some r := by rw [← e]; exact (if_pos hz).symm
      cases e'
      cases (show x = V.str z from hx)
      refine sl_str pins s σ H _ v vl vu lo hi sl Q I rx hs pl pu ⟨z, rfl, by rw [← szl_eq]; exact hz, ?_⟩
      have e2 : cutS z lo hi = ⟨(cutL z.cps.toList lo hi).toArray⟩ := by
        unfold cutS cutL
        simp [Str.length]
      rw [e2]
      exact q.here (.str _)
    · have e' : none = some r := by rw [← e]; exact (if_neg hz).symm
      cases e'
  | _ => cases e
end
end Dn
/-! Den4: built-ins by data; expressions -/
namespace Dn
open PySem PySem.Spec PyProof.Rows L2

abbrev RdDs (K : PySem.W.Frag) (H : Hp) : List V → List PyData → Prop := Paired (RdD K H)
theorem RdDs.one {K : PySem.W.Frag} {H : Hp} {xs : List V} {d : PyData} (h : RdDs K H xs [d]) : ∃ x, xs = [x] ∧ RdD K H x d := by
  cases h with
  | cons a b => cases b; exact ⟨_, rfl, a⟩
theorem RdDs.two {K : PySem.W.Frag} {H : Hp} {xs : List V} {d e : PyData} (h : RdDs K H xs [d, e]) : ∃ x y, xs = [x, y] ∧ RdD K H x d ∧ RdD K H y e := by
  cases h with
  | cons a b =>
    cases b with
    | cons c b => cases b; exact ⟨_, _, rfl, a, c⟩
def rBlt (K : PySem.W.Frag) (b : Blt) : List V → Hp → VK → Prop := fun xs H Q => ∃ ds r, RdDs K H xs ds ∧ bltD b ds = some r ∧ RNew K H Q r
theorem bools_of {K : PySem.W.Frag} {H : Hp} : ∀ {xs : List V} {ds : List PyData} {bs : List Bool}, Reps K H xs ds → boolsOf ds = some bs → xs = bs.map V.bl
  | _, _, _, .nil, e => by cases e; rfl
  | _, _, _, .cons (d := d) r rs, e => by
    cases d with
    | bool b =>
      obtain ⟨l, e1, e2⟩ := Option.map_eq_some_iff.mp (show (boolsOf _).map (b :: ·) = some _ from e)
      subst e2
      cases r
      rw [bools_of rs e1]
      rfl
    | _ => cases e
section
variable {X : Cx}
theorem call_lenD : CallR X (.builtin "len") (rBlt X.K .len) := by
  intro pins s σ H xs us Q I r h
  obtain ⟨ds, e, hd, he, q⟩ := h
  match ds, hd, he with
  | [.str x], hd, he =>
    obtain ⟨v, rfl, hv⟩ := hd.one
    cases (show v = V.str x from hv)
    by_cases hz : x.length ≤ szl
    · have e' : some (EV.val (.int x.length)) = some e := by rw [← he]; exact (if_pos hz).symm
      cases e'
      exact call_len pins s σ H _ us Q I r ⟨_, x.length, rfl, ⟨by rw [← szl_eq]; exact hz, rfl⟩, q.here (.int _)⟩
    · have e' : none = some e := by rw [← he]; exact (if_neg hz).symm
      cases e'
  | [.list l], hd, he =>
    obtain ⟨v, rfl, p, xs, rfl, h1, r1⟩ := hd.one
    cases he
    exact call_len pins s σ H _ us Q I r ⟨_, l.length, rfl, .inl ⟨xs, h1, r1.length.symm⟩, q.here (.int _)⟩
  | [.tuple l], hd, he =>
    obtain ⟨v, rfl, p, xs, rfl, h1, r1⟩ := hd.one
    cases he
    exact call_len pins s σ H _ us Q I r ⟨_, l.length, rfl, .inr ⟨xs, h1.1, r1.length.symm⟩, q.here (.int _)⟩
  | [.dict l], hd, he =>
    have he : (if isIns l = true then none else some (EV.val (.int l.length))) = some e := he
    by_cases nI : isIns l = true
    · rw [if_pos nI] at he
      cases he
    rw [if_neg nI] at he
    obtain ⟨v, rfl, hv⟩ := hd.one
    obtain ⟨p, ps, rfl, h1, r1⟩ := RdD.dct hv (Bool.eq_false_iff.mpr nI)
    cases he
    obtain ⟨u, rfl, ru⟩ := vals1 r
    cases (show u = Value.ref p from ru)
    exact d_len I h1 fun t s' I' => ⟨.int ps.length, H, I', ⟨t, rfl⟩, by rw [r1.length]; exact q.here (.int _)⟩
theorem lay_reps {K : PySem.W.Frag} {H : Hp} : ∀ {l : List PyData} {xs : List V} {acc kvs : List (PyData × PyData)} {ps : List (Key × V)}, Reps K H xs l → RepKs K H ps acc → layKD acc l = some kvs →
    ∃ (as : List Addr) (more : List (Key × V)), xs = as.map V.ref ∧ Paired (fun p kv => SqT K H p [kV kv.1, kv.2]) as more ∧ RepKs K H (mergeK ps more) kvs
  | [], _, acc, kvs, ps, .nil, r, e => by
    cases e
    exact ⟨[], [], rfl, .nil, r⟩
  | .tuple [kd, d] :: l, _, acc, kvs, ps, .cons h t, r, e => by
    obtain ⟨k, ek, e2⟩ := Option.bind_eq_some_iff.mp (show (keyOf kd).bind (fun k => layKD (putKD k d acc) l) = some kvs from e)
    obtain rfl := keyOf_inv ek
    cases h with
    | tup hs hr =>
      cases hr with
      | cons h1 hr =>
        cases hr with
        | cons h2 hr =>
          cases hr
          obtain ⟨as, more, rfl, pr, rr⟩ := lay_reps t (RepKs.put k r h2) e2
          refine ⟨_ :: as, (k, _) :: more, rfl, .cons ?_ pr, rr⟩
          cases k <;> (cases h1; exact hs.1)
/-- dict(t) of a plain tuple of pairs -/
theorem call_dictN (hcalm : X.calm = true) : CallR X (.type "dict") (fun xs H Q => ∃ (a : Addr) (ps : List Addr) (kvs : List (Key × V)), xs = [.ref a] ∧ SqT X.K H a (ps.map V.ref) ∧ PlT X.K H a ∧ Paired (fun p kv => SqT X.K H p [kV kv.1, kv.2]) ps kvs ∧
    ∀ p, H p = none → Q (.ref p) (upd H p (.dK (mergeK [] kvs)))) := by
  intro pins s σ H xs us Q I r q
  obtain ⟨a, ps, kvs, ex, hq, pl, hp, q⟩ := q
  subst ex
  obtain ⟨u, eu, rx⟩ := vals1 r
  subst eu
  cases rx
  obtain ⟨its, rv, ⟨o, ho, hc, n, hdat⟩, hz⟩ := I.tuple hq
  have ei := refs_at rv
  subst ei
  rw [List.length_map] at hz
  have hd : o.dict = none := by
    rcases pl with ⟨o', u', h, hd⟩ | ⟨o', h, hd⟩
    · have e : s.heap.get? a = some o' := (I.hok a _ h).1
      rw [ho] at e
      cases e
      exact hd
    · have e := I.kIn a o' h
      rw [ho] at e
      cases e
      exact hd
  obtain ⟨prs, rel, hl, hpr⟩ := pairs_of I hp
  -- the pairs by their keys' values
  obtain ⟨vs, hvs⟩ : ∃ vs : List (Value × Value), vs.length = prs.length ∧ ∀ (j : Nat) q', prs[j]? = some q' → ∃ b u, ps[j]? = some b ∧ vs[j]? = some (u, q'.2) ∧ IsTup s.heap b #[u, q'.2] ∧ keyIs q'.1 u = true := by
    have : ∀ j (h : j < prs.length), ∃ u : Value, ∃ b, ps[j]? = some b ∧ IsTup s.heap b #[u, prs[j].2] ∧ keyIs prs[j].1 u = true := fun j h => by
      obtain ⟨b, u, e1, e2, e3⟩ := hpr j prs[j] (List.getElem?_eq_getElem h)
      exact ⟨u, b, e1, e2, e3⟩
    refine ⟨List.ofFn fun (j : Fin prs.length) => ((this j.1 j.2).choose, prs[j.1].2), by simp, fun j q' e => ?_⟩
    obtain ⟨h, rfl⟩ := List.getElem?_eq_some_iff.mp e
    obtain ⟨b, e1, e2, e3⟩ := (this j h).choose_spec
    exact ⟨b, _, e1, by rw [List.getElem?_ofFn]; simp [h], e2, e3⟩
  obtain ⟨vl, hv⟩ := hvs
  let Ts : Nat → Addr := fun j => ps[j]?.getD 0
  have pi : PairItems s.heap (ps.map Value.ref).toArray Ts vs := by
    refine ⟨by simp [vl, hl], fun j k v e => ?_⟩
    have hj : j < prs.length := by rw [← vl]; exact (List.getElem?_eq_some_iff.mp e).1
    obtain ⟨b, u, e1, e2, e3, e4⟩ := hv j _ (List.getElem?_eq_getElem hj)
    rw [e] at e2
    cases e2
    have et : Ts j = b := by show ps[j]?.getD 0 = b; rw [e1]; rfl
    rw [et]
    exact ⟨by simp [e1], .inl (by obtain ⟨o, h1, h2, n, h3⟩ := e3; exact ⟨o, h1, h2, n, h3⟩)⟩
  have have' : PairsHave (mixKind X.prog X.w) vs.length (PairRel vs) prs := by
    refine ⟨vl.symm, fun j k v e => ?_⟩
    have hj : j < prs.length := by rw [← vl]; exact (List.getElem?_eq_some_iff.mp e).1
    obtain ⟨b, u, e1, e2, e3, e4⟩ := hv j _ (List.getElem?_eq_getElem hj)
    rw [show vs[j]? = some (k, v) from e] at e2
    cases e2
    exact ⟨prs[j].1, List.getElem?_eq_getElem hj, e4⟩
  refine PySem.call_dict_pairs (knd := mixKind X.prog X.w) (PairArg.tuple a (ps.map Value.ref).toArray Ts vs) (I.ok.hd hcalm) ⟨⟨o, n, ho, hc, hd, hdat⟩, pi⟩ have' (by rw [vl, hl]; exact hz) fun h' tk hd' k => ?_
  have hm : (s.heap.objs.size == sysModules) = false := beq_eq_false_iff_ne.mpr (Nat.ne_of_gt I.big)
  have hlen : (mergeK [] kvs).length ≤ sizeLine := by
    refine Nat.le_trans (length_mergeK kvs []) ?_
    rw [List.length_nil, Nat.zero_add, rel.length, hl]
    exact hz
  exact ⟨.ref s.heap.objs.size, upd H s.heap.objs.size (.dK (mergeK [] kvs)), I.laid (t' := tk) (fun b o e => k b o (fun z => nomatch z) e) (Nat.le_refl _) (show ObjOk X.prog X.w _ _ _ (.dK (mergeK [] kvs)) from ⟨hlen, hm, merged [] prs, KV.merge rel .nil, hd'⟩), rfl, q _ (I.hok.fresh (Nat.le_refl _))⟩
theorem call_dictT (hc : X.calm = true) : CallR X (.type "dict") (rBlt X.K .dict) := by
  intro pins s σ H xs us Q I r h
  obtain ⟨ds, e, hd, he, q⟩ := h
  match ds, hd, he with
  | [.list l], hd, he =>
    obtain ⟨v, rfl, p, xs, rfl, h1, r1⟩ := hd.one
    obtain ⟨kvs, e1, e2⟩ := Option.map_eq_some_iff.mp (show (layKD [] l).map (fun kvs => EV.fr (.dict kvs)) = some e from he)
    subst e2
    obtain ⟨as, more, rfl, pr, rr⟩ := lay_reps r1 .nil e1
    exact call_dictP hc pins s σ H _ us Q I r ⟨p, as, more, rfl, h1, pr, fun p' hp => q _ _ (Ex.new hp) ⟨p', rfl, hp, p', _, rfl, upd_same, rr.mono (Ex.new hp).ext⟩⟩
  | [.tuple l], hd, he =>
    obtain ⟨v, rfl, p, xs, rfl, h1, r1⟩ := hd.one
    obtain ⟨kvs, e1, e2⟩ := Option.map_eq_some_iff.mp (show (layKD [] l).map (fun kvs => EV.fr (.dict kvs)) = some e from he)
    subst e2
    have lib : isLib l = true := by
      show (layKD [] l).isSome = true
      rw [e1]
      rfl
    obtain ⟨as, more, rfl, pr, rr⟩ := lay_reps r1 .nil e1
    exact call_dictN hc pins s σ H _ us Q I r ⟨p, as, more, rfl, h1.1, h1.2 lib, pr, fun p' hp => q _ _ (Ex.new hp) ⟨p', rfl, hp, p', _, rfl, upd_same, rr.mono (Ex.new hp).ext⟩⟩
  | [.dict kvs], hd, he =>
    have he : (if isIns kvs = true then none else some (EV.fr (.dict kvs))) = some e := he
    by_cases nI : isIns kvs = true
    · rw [if_pos nI] at he
      cases he
    rw [if_neg nI] at he
    obtain ⟨v, rfl, hv⟩ := hd.one
    obtain ⟨p, ps, rfl, h1, r1⟩ := RdD.dct hv (Bool.eq_false_iff.mpr nI)
    cases he
    exact call_dictD pins s σ H _ us Q I r ⟨p, ps, rfl, h1, fun p' hp => q _ _ (Ex.new hp) ⟨p', rfl, hp, p', _, rfl, upd_same, r1.mono (Ex.new hp).ext⟩⟩
theorem leS_iff {a b : Str} : leS a b = true ↔ a.cps.toList ≤ b.cps.toList := by
  unfold leS
  rw [ltCps_eq]
  simp
theorem leS_trans (a b c : Str) (h1 : leS a b = true) (h2 : leS b c = true) : leS a c = true := by
  rw [leS_iff] at *
  exact List.le_trans h1 h2
theorem leS_total (a b : Str) : (leS a b || leS b a) = true := by
  rw [Bool.or_eq_true, leS_iff, leS_iff]
  exact List.le_total _ _
theorem leS_anti {a b : Str} (h1 : leS a b = true) (h2 : leS b a = true) : a = b := by
  rw [leS_iff] at *
  have e := List.le_antisymm h1 h2
  cases a with
  | mk x =>
    cases b with
    | mk y => exact congrArg Str.mk (Array.toList_inj.mp e)
theorem rising_pw : ∀ (l : List Str) (p : Str), risingS p l = true → (p :: l).Pairwise fun a b => leS a b = true
  | [], p, _ => List.pairwise_singleton _ _
  | x :: l, p, h => by
    have h : (!PySem.Spec.ltCps x.cps.toList p.cps.toList && risingS x l) = true := h
    rw [Bool.and_eq_true] at h
    have ih := rising_pw l x h.2
    refine List.pairwise_cons.mpr ⟨fun y hy => ?_, ih⟩
    rcases List.mem_cons.mp hy with rfl | hy
    · exact h.1
    · exact leS_trans p x y h.1 (List.rel_of_pairwise_cons ih hy)
theorem sorted_pw : ∀ l : List Str, sortedS l = true → l.Pairwise fun a b => leS a b = true
  | [], _ => List.Pairwise.nil
  | x :: l, h => rising_pw l x h
theorem sortS_of {l m : List Str} (h : m.Perm l) (s : sortedS m = true) : m = sortS l :=
  List.Perm.eq_of_pairwise (le := fun a b => leS a b = true) (fun a b _ _ h1 h2 => leS_anti h1 h2) (sorted_pw m s) (List.pairwise_mergeSort (fun a b c => leS_trans a b c) leS_total l) (h.trans (List.mergeSort_perm l leS).symm)
theorem strs_reps {K : PySem.W.Frag} {H : Hp} : ∀ {l : List PyData} {xs : List V} {ss : List Str}, Reps K H xs l → strsOf l = some ss → xs = ss.map V.str ∧ l = ss.map PyData.str
  | [], _, ss, .nil, e => by cases e; exact ⟨rfl, rfl⟩
  | .str x :: l, _, ss, .cons h t, e => by
    obtain ⟨r, e1, e2⟩ := Option.map_eq_some_iff.mp (show (strsOf l).map (x :: ·) = some ss from e)
    subst e2
    obtain ⟨rfl, rfl⟩ := strs_reps t e1
    cases h
    exact ⟨rfl, rfl⟩
theorem reps_strs {K : PySem.W.Frag} {H : Hp} : ∀ ss : List Str, Reps K H (ss.map V.str) (ss.map PyData.str)
  | [] => .nil
  | x :: ss => .cons (.str x) (reps_strs ss)
theorem keys_strs {K : PySem.W.Frag} {H : Hp} : ∀ {kvs : List (PyData × PyData)} {ps : List (Key × V)} {ss : List Str}, RepKs K H ps kvs → strsOf (kvs.map (·.1)) = some ss → ps.map (·.1) = ss.map Sum.inr
  | [], _, ss, .nil, e => by cases e; rfl
  | _ :: _, _, ss, .cons (k := k) h t, e => by
    cases k with
    | inl i => cases e
    | inr x =>
      obtain ⟨r, e1, e2⟩ := Option.map_eq_some_iff.mp (show (strsOf (_ : List PyData)).map (x :: ·) = some ss from e)
      subst e2
      rw [List.map_cons, List.map_cons, keys_strs t e1]
theorem call_sortedT (hc : X.calm = true) : CallR X (.builtin "sorted") (rBlt X.K .sorted) := by
  intro pins s σ H xs us Q I r h
  obtain ⟨ds, e, hd, he, q⟩ := h
  match ds, hd, he with
  | [.list l], hd, he =>
    obtain ⟨v, rfl, p, xs, rfl, h1, r1⟩ := hd.one
    obtain ⟨ss, e1, e2⟩ := Option.bind_eq_some_iff.mp (show (strsOf l).bind _ = some e from he)
    by_cases hz : ss.length < 64
    case neg => rw [if_neg hz] at e2; cases e2
    rw [if_pos hz] at e2
    cases e2
    obtain ⟨rfl, rfl⟩ := strs_reps r1 e1
    exact cr_sortedS pins s σ H _ us Q I r ⟨p, ss, rfl, h1, hz, fun ys p' hy hs hp => by
      rw [sortS_of hy hs]
      exact q.list (reps_strs _) p' hp⟩
  | [.dict l], hd, he =>
    have he : (if isIns l = true then none else sortSD (l.map (·.1))) = some e := he
    by_cases nI : isIns l = true
    · rw [if_pos nI] at he
      cases he
    rw [if_neg nI] at he
    obtain ⟨v, rfl, hv⟩ := hd.one
    obtain ⟨p, ps, rfl, h1, r1⟩ := RdD.dct hv (Bool.eq_false_iff.mpr nI)
    obtain ⟨ss, e1, e2⟩ := Option.bind_eq_some_iff.mp (show (strsOf (l.map (·.1))).bind _ = some e from he)
    by_cases hz : ss.length < 64
    case neg => rw [if_neg hz] at e2; cases e2
    rw [if_pos hz] at e2
    cases e2
    exact call_sortedD hc pins s σ H _ us Q I r ⟨p, ps, ss, rfl, h1, keys_strs r1 e1, hz, fun ys p' hy hs hp => by
      rw [sortS_of hy hs]
      exact q.list (reps_strs _) p' hp⟩
theorem call_absD : CallR X (.builtin "abs") (rBlt X.K .abs) := by
  intro pins s σ H xs us Q I r h
  obtain ⟨ds, e, hd, he, q⟩ := h
  match ds, hd, he with
  | [.int i], hd, he =>
    obtain ⟨v, rfl, hv⟩ := hd.one
    cases (show v = V.int i from hv)
    cases he
    exact call_abs pins s σ H _ us Q I r ⟨i, rfl, q.here (.int _)⟩
theorem call_intD : CallR X (.type "int") (rBlt X.K .int) := by
  intro pins s σ H xs us Q I r h
  obtain ⟨ds, e, hd, he, q⟩ := h
  match ds, hd, he with
  | [.int i], hd, he =>
    obtain ⟨v, rfl, hv⟩ := hd.one
    cases (show v = V.int i from hv)
    cases he
    exact call_int1 pins s σ H _ us Q I r (.inl ⟨i, rfl, q.here (.int _)⟩)
  | [.bool b], hd, he =>
    obtain ⟨v, rfl, hv⟩ := hd.one
    cases (show v = V.bl b from hv)
    cases he
    exact call_int1 pins s σ H _ us Q I r (.inr ⟨b, rfl, q.here (.int _)⟩)
theorem call_tupleD : CallR X (.type "tuple") (rBlt X.K .tuple) := by
  intro pins s σ H xs us Q I r h
  obtain ⟨ds, e, hd, he, q⟩ := h
  match ds, hd, he with
  | [.list l], hd, he =>
    obtain ⟨v, rfl, p, xs, rfl, h1, r1⟩ := hd.one
    cases he
    exact call_tupleN pins s σ H _ us Q I r ⟨p, xs, rfl, h1, q.tup r1⟩
  | [.tuple l], hd, he =>
    obtain ⟨v, rfl, p, xs, rfl, h1, r1⟩ := hd.one
    cases he
    exact call_tuple_of pins s σ H _ us Q I r ⟨p, xs, rfl, .inr ⟨h1.1, q.here (.tup h1 r1)⟩⟩
theorem call_listD : CallR X (.type "list") (rBlt X.K .list) := by
  intro pins s σ H xs us Q I r h
  obtain ⟨ds, e, hd, he, q⟩ := h
  match ds, hd, he with
  | [.list l], hd, he =>
    obtain ⟨v, rfl, p, xs, rfl, h1, r1⟩ := hd.one
    cases he
    exact call_list_of pins s σ H _ us Q I r ⟨p, xs, rfl, .inl h1, q.list r1⟩
  | [.tuple l], hd, he =>
    obtain ⟨v, rfl, p, xs, rfl, h1, r1⟩ := hd.one
    cases he
    exact call_list_of pins s σ H _ us Q I r ⟨p, xs, rfl, .inr h1.1, q.list r1⟩
theorem call_allD (hc : X.calm = true) : CallR X (.builtin "all") (rBlt X.K .all) := by
  intro pins s σ H xs us Q I r h
  obtain ⟨ds, e, hd, he, q⟩ := h
  match ds, hd, he with
  | [.list l], hd, he =>
    obtain ⟨v, rfl, p, xs, rfl, h1, r1⟩ := hd.one
    obtain ⟨bs, e1, e2⟩ := Option.map_eq_some_iff.mp (show (boolsOf l).map _ = some _ from he)
    subst e2
    rw [bools_of r1 e1] at h1
    exact cr_all hc pins s σ H _ us Q I r ⟨p, bs, rfl, h1, q.here (.bl _)⟩
theorem call_anyD (hc : X.calm = true) : CallR X (.builtin "any") (rBlt X.K .any) := by
  intro pins s σ H xs us Q I r h
  obtain ⟨ds, e, hd, he, q⟩ := h
  match ds, hd, he with
  | [.list l], hd, he =>
    obtain ⟨v, rfl, p, xs, rfl, h1, r1⟩ := hd.one
    obtain ⟨bs, e1, e2⟩ := Option.map_eq_some_iff.mp (show (boolsOf l).map _ = some _ from he)
    subst e2
    rw [bools_of r1 e1] at h1
    exact cr_any hc pins s σ H _ us Q I r ⟨p, bs, rfl, h1, q.here (.bl _)⟩
theorem ints_of {K : PySem.W.Frag} {H : Hp} : ∀ {xs : List V} {ds : List PyData} {ns : List Int}, Reps K H xs ds → intsOf ds = some ns → xs = ns.map V.int
  | _, _, _, .nil, e => by cases e; rfl
  | _, _, _, .cons (d := d) r rs, e => by
    cases d with
    | int i =>
      obtain ⟨l, e1, e2⟩ := Option.map_eq_some_iff.mp (show (intsOf _).map (i :: ·) = some _ from e)
      subst e2
      cases r
      rw [ints_of rs e1]
      rfl
    | _ => cases e
theorem fold_min : ∀ (l : List Int) (i : Int), (l.foldl (fun a b => if b < a then b else a) i ∈ i :: l) ∧ ∀ y ∈ i :: l, l.foldl (fun a b => if b < a then b else a) i ≤ y
  | [], i => ⟨List.mem_cons_self .., fun y hy => by rw [List.mem_singleton.mp hy]; exact Int.le_refl _⟩
  | b :: l, i => by
    obtain ⟨h1, h2⟩ := fold_min l (if b < i then b else i)
    rw [List.foldl_cons]
    refine ⟨?_, fun y hy => ?_⟩
    · rcases List.mem_cons.mp h1 with e | e
      · rw [e]
        split
        · exact List.mem_cons_of_mem _ (List.mem_cons_self ..)
        · exact List.mem_cons_self ..
      · exact List.mem_cons_of_mem _ (List.mem_cons_of_mem _ e)
    · have z := h2 _ (List.mem_cons_self ..)
      rcases List.mem_cons.mp hy with rfl | hy
      · refine Int.le_trans z ?_
        split <;> omega
      · rcases List.mem_cons.mp hy with rfl | hy
        · refine Int.le_trans z ?_
          split <;> omega
        · exact h2 y (List.mem_cons_of_mem _ hy)
theorem fold_max : ∀ (l : List Int) (i : Int), (l.foldl (fun a b => if b > a then b else a) i ∈ i :: l) ∧ ∀ y ∈ i :: l, y ≤ l.foldl (fun a b => if b > a then b else a) i
  | [], i => ⟨List.mem_cons_self .., fun y hy => by rw [List.mem_singleton.mp hy]; exact Int.le_refl _⟩
  | b :: l, i => by
    obtain ⟨h1, h2⟩ := fold_max l (if b > i then b else i)
    rw [List.foldl_cons]
    refine ⟨?_, fun y hy => ?_⟩
    · rcases List.mem_cons.mp h1 with e | e
      · rw [e]
        split
        · exact List.mem_cons_of_mem _ (List.mem_cons_self ..)
        · exact List.mem_cons_self ..
      · exact List.mem_cons_of_mem _ (List.mem_cons_of_mem _ e)
    · have z := h2 _ (List.mem_cons_self ..)
      rcases List.mem_cons.mp hy with rfl | hy
      · refine Int.le_trans ?_ z
        split <;> omega
      · rcases List.mem_cons.mp hy with rfl | hy
        · refine Int.le_trans ?_ z
          split <;> omega
        · exact h2 y (List.mem_cons_of_mem _ hy)
theorem minI_is {l : List Int} {i m : Int} (h : minI l = some i) (hm : m ∈ l) (hl : ∀ y ∈ l, m ≤ y) : m = i := by
  cases l with
  | nil => cases h
  | cons a r =>
    cases h
    obtain ⟨h1, h2⟩ := fold_min r a
    have := hl _ h1
    have := h2 _ hm
    omega
theorem maxI_is {l : List Int} {i m : Int} (h : maxI l = some i) (hm : m ∈ l) (hl : ∀ y ∈ l, y ≤ m) : m = i := by
  cases l with
  | nil => cases h
  | cons a r =>
    cases h
    obtain ⟨h1, h2⟩ := fold_max r a
    have := hl _ h1
    have := h2 _ hm
    omega
theorem call_maxD (hc : X.calm = true) : CallR X (.builtin "max") (rBlt X.K .max) := by
  intro pins s σ H xs us Q I r h
  obtain ⟨ds, e, hd, he, q⟩ := h
  match ds, hd, he with
  | [.int i, .int j], hd, he =>
    obtain ⟨v, w, rfl, hv, hw⟩ := hd.two
    cases (show v = V.int i from hv)
    cases (show w = V.int j from hw)
    cases he
    exact call_max2 hc pins s σ H _ us Q I r ⟨i, j, rfl, q.here (.int _)⟩
  | [.list l], hd, he =>
    obtain ⟨v, rfl, p, xs, rfl, h1, r1⟩ := hd.one
    obtain ⟨i, e1, e2⟩ := Option.map_eq_some_iff.mp (show ((intsOf l).bind maxI).map _ = some _ from he)
    obtain ⟨ns, e3, e4⟩ := Option.bind_eq_some_iff.mp e1
    subst e2
    rw [ints_of r1 e3] at h1
    exact cr_max hc pins s σ H _ us Q I r ⟨p, ns, rfl, h1, by cases ns with | nil => cases e4 | cons a r => simp, fun m hm hl => by rw [maxI_is e4 hm hl]; exact q.here (.int _)⟩
theorem call_minD (hc : X.calm = true) : CallR X (.builtin "min") (rBlt X.K .min) := by
  intro pins s σ H xs us Q I r h
  obtain ⟨ds, e, hd, he, q⟩ := h
  match ds, hd, he with
  | [.int i, .int j], hd, he =>
    obtain ⟨v, w, rfl, hv, hw⟩ := hd.two
    cases (show v = V.int i from hv)
    cases (show w = V.int j from hw)
    cases he
    exact call_min2 hc pins s σ H _ us Q I r ⟨i, j, rfl, q.here (.int _)⟩
  | [.list l], hd, he =>
    obtain ⟨v, rfl, p, xs, rfl, h1, r1⟩ := hd.one
    obtain ⟨i, e1, e2⟩ := Option.map_eq_some_iff.mp (show ((intsOf l).bind minI).map _ = some _ from he)
    obtain ⟨ns, e3, e4⟩ := Option.bind_eq_some_iff.mp e1
    subst e2
    rw [ints_of r1 e3] at h1
    exact cr_min hc pins s σ H _ us Q I r ⟨p, ns, rfl, h1, by cases ns with | nil => cases e4 | cons a r => simp, fun m hm hl => by rw [minI_is e4 hm hl]; exact q.here (.int _)⟩
theorem call_sumD (hc : X.calm = true) : CallR X (.builtin "sum") (rBlt X.K .sum) := by
  intro pins s σ H xs us Q I r h
  obtain ⟨ds, e, hd, he, q⟩ := h
  match ds, hd, he with
  | [.list l], hd, he =>
    obtain ⟨v, rfl, p, xs, rfl, h1, r1⟩ := hd.one
    obtain ⟨ns, e1, e2⟩ := Option.map_eq_some_iff.mp (show (intsOf l).map _ = some _ from he)
    subst e2
    rw [ints_of r1 e1] at h1
    exact cr_sum hc pins s σ H _ us Q I r ⟨p, ns, rfl, h1, q.here (.int _)⟩
section
variable {pins : List (Addr × Obj)} {σ : St} {H : Hp} {s : Shared}
/-- how it is shown, if it can be -/
def Shows (X : Cx) (s : Shared) (u : Value) (d : PyData) : Prop := d.showable = true → d.shown.length ≤ sizeLine → ∃ bs, ReadAtMost s.heap d.depth bs ∧ ReprK X.prog X.w bs s.heap d.depth u d.shown
def ShowsA (X : Cx) (s : Shared) (us : List Value) (ds : List PyData) : Prop := PyData.showableAll ds = true → (∀ t ∈ PyData.shownAll ds, t.length ≤ sizeLine) → ∃ bs, ReadAtMost s.heap (PyData.depthAll ds) bs ∧ ReprAllK X.prog X.w bs s.heap (PyData.depthAll ds) us (PyData.shownAll ds)
theorem empty_dict (I : Inv X pins σ H s) {a : Addr} (h : Rd H a (.dK [])) : (a == sysModules) = false ∧ ∃ o ep, s.heap.get? a = some o ∧ o.cls = .type "dict" ∧ o.data = .dict #[] ep := by
  obtain ⟨_, hsys, vs, kv, o, es, ep, ho, hx, hd, _, hp, _⟩ := h.ok I.hok
  cases kv
  have e : es.toList = [] := by cases hp' : es.toList with
    | nil => rfl
    | cons x l => rw [hp'] at hp; cases hp
  have e2 : es = #[] := by simpa using e
  subst e2
  exact ⟨hsys, o, ep, ho, hx.1, hd⟩
theorem ReadAtMost.le {h : Heap} {n m : Nat} {bs : List Addr} (r : ReadAtMost h n bs) (le : n ≤ m) : ReadAtMost h m bs := r.mono le
mutual
theorem Rep.look (I : Inv X pins σ H s) : ∀ (d : PyData) (v : V) (u : Value), Rep X.K H v d → RelV v u → noDs d = true → ∃ as, Reads s.heap u d as ∧ Shows X s u d
  | .none, _, _, h, r, _ => by
    cases h; cases r
    exact ⟨_, .none, fun _ _ => ⟨[], (fun _ h => (nomatch h)), ReprK.of_is ReprIs.none _ _ _⟩⟩
  | .bool b, _, _, h, r, _ => by
    cases h; cases r
    exact ⟨_, .bool b, fun _ _ => ⟨[], (fun _ h => (nomatch h)), ReprK.of_is (ReprIs.bool b) _ _ _⟩⟩
  | .int i, _, _, h, r, _ => by
    cases h; obtain ⟨t, rfl⟩ := r
    exact ⟨_, .int i t, fun z _ => ⟨[], (fun _ h => (nomatch h)), ReprK.of_is (ReprIs.int t (by simpa [PyData.showable] using z)) _ _ _⟩⟩
  | .str x, _, _, h, r, _ => by
    cases h; obtain ⟨t, rfl⟩ := r
    exact ⟨_, .str x t, fun _ z => ⟨[], (fun _ h => (nomatch h)), ReprK.of_is (ReprIs.str x t (by simpa only [PyData.shown] using z)) _ _ _⟩⟩
  | .list ds, _, _, h, r, n => by
    cases h with
    | lst hs ha =>
      rename_i p xs
      cases r
      obtain ⟨its, rv, ⟨o, m, ho, hc, _, hd⟩, _⟩ := I.list hs.sq
      obtain ⟨as, hr, sh⟩ := Reps.look I ds xs its ha rv n
      have rd : Reads s.heap (.ref p) (.list ds) _ := Reads.list ho hc hd hr
      refine ⟨_, rd, fun z1 z2 => ?_⟩
      have z2 : (listText (PyData.shownAll ds)).length ≤ sizeLine := by simpa only [PyData.shown] using z2
      obtain ⟨bs, hb, hk⟩ := sh (by simpa [PyData.showable] using z1) fun t ht => Nat.le_trans (listText_mem_le ht) z2
      have out := not_mem_of_deeper rd (by simp only [PyData.depth]; omega) hb
      refine ⟨p :: bs, ReadAtMost.cons rd (by simp only [PyData.depth]; omega) hb, ?_⟩
      simp only [PyData.depth, PyData.shown]
      cases its with
      | nil =>
        cases hr
        simp only [PyData.shownAll, listText_nil]
        exact .listEmpty ho hc hd
      | cons x l => exact .list ho hc hd out (by simpa using hk.length_eq) fun i y e => hk.item i y (by simpa using e)
  | .tuple ds, _, _, h, r, n => by
    cases h with
    | tup hs ha =>
      rename_i p xs
      cases r
      obtain ⟨its, rv, ⟨o, ho, hc, m, hd⟩, _⟩ := I.tuple hs.1
      obtain ⟨as, hr, sh⟩ := Reps.look I ds xs its ha rv n
      have rd : Reads s.heap (.ref p) (.tuple ds) _ := Reads.tuple ho hc hd hr
      refine ⟨_, rd, fun z1 z2 => ?_⟩
      have z2 : (tupleText (PyData.shownAll ds)).length ≤ sizeLine := by simpa only [PyData.shown] using z2
      obtain ⟨bs, hb, hk⟩ := sh (by simpa [PyData.showable] using z1) fun t ht => Nat.le_trans (tupleText_mem_le ht) z2
      have out := not_mem_of_deeper rd (by simp only [PyData.depth]; omega) hb
      refine ⟨p :: bs, ReadAtMost.cons rd (by simp only [PyData.depth]; omega) hb, ?_⟩
      simp only [PyData.depth, PyData.shown]
      exact .tuple ho hc hd out (by simpa using hk)
  | .dict [], _, _, h, r, _ => by
    cases h with
    | dct hs ha =>
      cases ha
      cases r
      obtain ⟨hsys, o, ep, ho, hc, hd⟩ := empty_dict I (.inr ⟨_, hs⟩)
      have rd := Reads.dict (kvs := []) ho hc hd .nil .nil
      refine ⟨_, rd, fun _ _ => ⟨_ :: [], ReadAtMost.cons rd (Nat.le_refl _) (fun _ h => (nomatch h)), ?_⟩⟩
      exact ReprK.dict (d := 0) (ps := []) ho hc hd hsys (fun h => nomatch h) .nil
  | .dict (_ :: _), _, _, h, r, n => by cases n
theorem Reps.look (I : Inv X pins σ H s) : ∀ (ds : List PyData) (vs : List V) (us : List Value), Reps X.K H vs ds → Vals vs us → noDsA ds = true → ∃ as, ReadsAll s.heap us ds as ∧ ShowsA X s us ds
  | [], _, _, h, r, _ => by
    cases h; cases r
    exact ⟨_, .nil, fun _ _ => ⟨[], (fun _ h => (nomatch h)), .nil⟩⟩
  | d :: ds, _, _, h, r, n => by
    have n : (noDs d && noDsA ds) = true := n
    rw [Bool.and_eq_true] at n
    cases h with
    | cons h1 h2 =>
      cases r with
      | cons r1 r2 =>
        obtain ⟨as, q1, sh1⟩ := Rep.look I d _ _ h1 r1 n.1
        obtain ⟨cs, q2, sh2⟩ := Reps.look I ds _ _ h2 r2 n.2
        refine ⟨_, .cons q1 q2, fun z1 z2 => ?_⟩
        have z1 : d.showable = true ∧ PyData.showableAll ds = true := by simpa [PyData.showableAll] using z1
        obtain ⟨b1, hb1, k1⟩ := sh1 z1.1 (z2 _ (by simp only [PyData.shownAll]; exact List.mem_cons_self ..))
        obtain ⟨b2, hb2, k2⟩ := sh2 z1.2 fun t ht => z2 t (by simp only [PyData.shownAll]; exact List.mem_cons_of_mem _ ht)
        simp only [PyData.depthAll, PyData.shownAll]
        exact ⟨b1 ++ b2, (hb1.mono (Nat.le_max_left _ _)).append (hb2.mono (Nat.le_max_right _ _)),
          .cons ((k1.more fun b hb => List.mem_append_left _ hb).level_le (Nat.le_max_left _ _)) (k2.more_le (fun b hb => List.mem_append_right _ hb) (Nat.le_max_right _ _))⟩
end
end
theorem call_reprD (hg : X.A.guards = some []) (hu : X.A.units + 100 < cLine) : CallR X (.builtin "repr") (rBlt X.K .repr) := by
  intro pins s σ H xs us Q I r h
  obtain ⟨ds, e, hd, he, q⟩ := h
  match ds, hd, he with
  | [d], hd, he =>
    obtain ⟨v, rfl, hv⟩ := hd.one
    by_cases hz : d.showable = true ∧ noDs d = true ∧ d.shown.length ≤ szl ∧ d.depth ≤ 96
    · have e' : some (EV.val (.str d.shown)) = some e := by rw [← he]; exact (if_pos hz).symm
      cases e'
      obtain ⟨u, rfl, ru⟩ := vals1 r
      obtain ⟨h1, h2, h3, h4⟩ := hz
      rw [szl_eq] at h3
      have fin : ∀ h' t tk, (∀ b o, s.heap.get? b = some o → h'.get? b = some o) → EP X pins σ Q (.str d.shown t) { s with heap := h', toks := tk } := fun h' t tk hk =>
        ⟨.str d.shown, H, I.kept hk, ⟨t, rfl⟩, q.here (.str _)⟩
      have gu : X.A.in1.units + d.depth < cLine := by show X.A.units + 1 + d.depth < cLine; omega
      cases d with
      | none =>
        cases (show v = V.non from hv); cases ru
        exact PySem.P.repr_of_none (fin s.heap _ _ fun _ _ e => e)
      | bool b =>
        cases (show v = V.bl b from hv); cases ru
        exact PySem.P.repr_of_bool (fin s.heap _ _ fun _ _ e => e)
      | int i =>
        cases (show v = V.int i from hv); obtain ⟨t, rfl⟩ := ru
        exact PySem.P.repr_of_int (by simpa [PyData.showable] using h1) (fin s.heap _ _ fun _ _ e => e)
      | str x =>
        cases (show v = V.str x from hv); obtain ⟨t, rfl⟩ := ru
        exact PySem.P.repr_of_str (fin s.heap _ _ fun _ _ e => e) (by simpa [PyData.shown] using h3)
      | list l =>
        obtain ⟨p, xs, rfl, hs, ha⟩ := hv
        cases ru
        obtain ⟨its, rv, ⟨o, m, ho, hc, _, hd'⟩, _⟩ := I.list hs
        obtain ⟨as, hr, sh⟩ := Reps.look I l xs its ha rv h2
        have rd : Reads s.heap (.ref p) (.list l) _ := Reads.list ho hc hd' hr
        have z2 : (listText (PyData.shownAll l)).length ≤ sizeLine := by simpa only [PyData.shown] using h3
        obtain ⟨bs, hb, hk⟩ := sh (by simpa [PyData.showable] using h1) fun t ht => Nat.le_trans (listText_mem_le ht) z2
        have out := not_mem_of_deeper rd (by simp only [PyData.depth]; omega) hb
        simp only [PyData.depth] at gu
        simp only [PyData.shown] at fin
        refine call_repr_slot (by omega) ⟨o, ho, hc⟩ F.slot_list_repr.toG ?_
        cases its with
        | nil =>
          cases hr
          simp only [PyData.shownAll, listText_nil] at fin
          exact call_list_repr_empty ⟨o, ho, hc⟩ ho hd' ⟨_, _, rfl, fin s.heap _ _ fun _ _ e => e⟩
        | cons x l' => exact call_list_reprK ho hc hd' out (by simpa using hk.length_eq) (fun i y e => hk.item i y (by simpa using e)) hg (fun b _ => Clear.nil b) gu (fun _ _ e => e) (fun h' t tk hk => ⟨_, _, rfl, fin h' t tk hk⟩) z2
      | tuple l =>
        obtain ⟨p, xs, rfl, hs, ha⟩ := hv
        cases ru
        obtain ⟨its, rv, ⟨o, ho, hc, m, hd'⟩, _⟩ := I.tuple hs.1
        obtain ⟨as, hr, sh⟩ := Reps.look I l xs its ha rv h2
        have rd : Reads s.heap (.ref p) (.tuple l) _ := Reads.tuple ho hc hd' hr
        have z2 : (tupleText (PyData.shownAll l)).length ≤ sizeLine := by simpa only [PyData.shown] using h3
        obtain ⟨bs, hb, hk⟩ := sh (by simpa [PyData.showable] using h1) fun t ht => Nat.le_trans (tupleText_mem_le ht) z2
        have out := not_mem_of_deeper rd (by simp only [PyData.depth]; omega) hb
        simp only [PyData.depth] at gu
        simp only [PyData.shown] at fin
        exact call_repr_slot (by omega) ⟨o, ho, hc⟩ F.slot_tuple_repr
          (call_tuple_reprK ho hc hd' out (by simpa using hk) hg (fun b _ => Clear.nil b) gu (fun _ _ e => e) (fun h' t tk hk => ⟨_, _, rfl, fin h' t tk hk⟩) z2)
      | dict l =>
        have n : l = [] := by simpa [noDs] using h2
        subst n
        obtain ⟨p, ps, rfl, hs, ha⟩ := hv.dct rfl
        cases ha
        cases ru
        obtain ⟨hsys, o, ep, ho, hc, hd'⟩ := empty_dict I hs
        exact call_repr_slot (by omega) ⟨o, ho, hc⟩ F.slot_dict_repr
          (call_dict_reprK (as := []) (d := 0) (ps := []) ho hc hd' hsys (by intro h; cases h) .nil hg (fun b _ => Clear.nil b) (by show X.A.units + 1 + (0 + 1) < cLine; omega) (fun _ _ e => e) (fun h' t tk hk => ⟨_, _, rfl, fin h' t tk hk⟩) h3)
    · have e' : none = some e := by rw [← he]; exact (if_neg hz).symm
      cases e'
end
end Dn
/-! Den5: expressions -/
namespace Dn
open PySem PySem.Spec PyProof.Rows L2

/-! ### a tuple from behind -/
section
variable {prog : Program} {w : World} {A : Around} {E : Value → Shared → Prop} {s : Shared}
theorem sliceApplied_rev {sl : Addr} {n : Nat} {u : Tok} {Q : Int × Int × Nat → Shared → Prop} (hs : s.heap.IsSliceOf sl .none .none (.int (-1) u))
    (h : Q ((n : Int) - 1, -1, n) s) : wpAny (model prog w) A (Builtin.Slice.sliceApplied (.ref sl) (pure (n : Int))) Q E s := by
  obtain ⟨os, hos, hcs, hds⟩ := id hs
  unfold Builtin.Slice.sliceApplied Builtin.Slice.sliceFields
  refine wpAny_bind (wpAny_bind (wpAny_field hos hds (x := .none) rfl (wpAny_bind (wpAny_field hos hds (x := .none) rfl (wpAny_bind (wpAny_field hos hds (x := .int (-1) u) rfl (wpAny_pure ?_)))))))
  refine wpAny_bind (slicePart_int ?_)
  show wpAny _ _ (if ((-1 : Int) == 0) = true then _ else _) _ _ s
  rw [if_neg (by decide)]
  refine wpAny_bind (slicePart_none (wpAny_bind (slicePart_none (wpAny_bind (wpAny_pure ?_)))))
  show wpAny _ _ (match Builtin.Slice.sliceAdjust none none (-1) (n : Int) with | (lo, hi) => pure (lo, (-1 : Int), Builtin.Slice.slicePlaces lo hi (-1))) _ _ s
  have e : Builtin.Slice.sliceAdjust none none (-1) (n : Int) = ((n : Int) - 1, -1) := by
    unfold Builtin.Slice.sliceAdjust
    simp
  rw [e]
  have e2 : Builtin.Slice.slicePlaces ((n : Int) - 1) (-1) (-1) = n := by
    unfold Builtin.Slice.slicePlaces
    simp only [show ¬ ((-1 : Int) > 0) by omega, if_false]
    by_cases hn : n = 0
    · subst hn; rfl
    · rw [if_pos (by omega)]
      have : ((n : Int) - 1 - -1 - 1) / (- -1) + 1 = n := by
        rw [show (- -1 : Int) = 1 by rfl, Int.ediv_one]; omega
      rw [this]; omega
  show wpAny _ _ (pure ((n : Int) - 1, (-1 : Int), Builtin.Slice.slicePlaces ((n : Int) - 1) (-1) (-1))) _ _ s
  rw [e2]
  exact wpAny_pure h
theorem fm_congr {α β : Type} {f g : α → Option β} : ∀ {l : List α}, (∀ a ∈ l, f a = g a) → l.filterMap f = l.filterMap g
  | [], _ => rfl
  | a :: l, h => by
    rw [List.filterMap_cons, List.filterMap_cons, h a List.mem_cons_self, fm_congr fun b hb => h b (List.mem_cons_of_mem _ hb)]
theorem pick_rev (xs : Array Value) : ((List.range xs.size).filterMap fun (m : Nat) => xs[((xs.size : Int) - 1 + (m : Int) * (-1)).toNat]?).toArray = xs.toList.reverse.toArray := by
  have e := PySem.W.krv_all xs.toList.reverse.toArray
  have hl : xs.toList.reverse.toArray.size = xs.size := by rw [List.size_toArray, List.length_reverse, Array.length_toList]
  rw [hl] at e
  congr 1
  rw [show xs.toList.reverse = xs.toList.reverse.toArray.toList from rfl, ← e]
  refine fm_congr fun m hm => ?_
  have hm : m < xs.size := List.mem_range.mp hm
  have e1 : xs.toList.reverse.toArray[m]? = xs.toList.reverse[m]? := by simp
  rw [e1, List.getElem?_reverse (by rw [Array.length_toList]; exact hm), Array.length_toList, Array.getElem?_toList]
  congr 1
  omega
theorem getItem_tuple_rev {t sl : Addr} {items : Array Value} {u : Tok} {Q : Value → Shared → Prop} (ht : IsTup s.heap t items) (hs : s.heap.IsSliceOf sl .none .none (.int (-1) u))
    (h : Q (.ref s.heap.objs.size) { s with heap := s.heap.push { cls := .type "tuple", data := .seq items.toList.reverse.toArray } })
    (hsz : items.size ≤ sizeLine) : wpAny (model prog w) A (getItem (.ref t) (.ref sl)) Q E s := by
  have htake : sizeOk (.seq items.toList.reverse.toArray) := by
    show items.toList.reverse.toArray.size ≤ sizeLine
    rw [List.size_toArray, List.length_reverse, Array.length_toList]
    exact hsz
  obtain ⟨os, hos, hcs, hds⟩ := id hs
  have hTs : s.TypeIs (.ref sl) "slice" := ⟨os, hos, hcs⟩
  unfold getItem
  try with_reducible refine wpAny_holding ?_
  first | refine wpAny_bind (wpAny_pure ?_) | skip
  refine wpAny_bind (wpAny_sequenceKey ht.typeIs (by decide) ?_)
  refine wpAny_bind (wpAny_callSpecial?_slot (name := Str.ofString "__getitem__") ht.typeIs PyProof.Rows.slot_tuple_getitem
    (wpAny_call_entry PyProof.Rows.slot_tuple_getitem ht.typeIs entry_tuple_getitem ?_ (args_tuple_getitem _ _)))
  show wpAny _ _ (Builtin.Tuple.tupleItemsOf (.ref t) >>= _) _ _ s
  refine wpAny_bind (tupleItemsOf_ ht ?_)
  refine wpAny_bind (wpAny_typeOf hTs ?_)
  rw [if_pos (by decide)]
  refine wpAny_bind (sliceApplied_rev hs ?_)
  have hno : ¬ ((((items.size : Int) - 1) == 0 && (-1 : Int) == 1 && items.size == items.size) = true) := by
    rw [show ((-1 : Int) == 1) = false from rfl, Bool.and_false, Bool.false_and]
    exact Bool.false_ne_true
  show wpAny _ _ (if (((items.size : Int) - 1) == 0 && (-1 : Int) == 1 && items.size == items.size) = true then _ else _) _ _ s
  rw [if_neg hno, pick_rev]
  first
    | exact wpAny_bind (m := Builtin.Tuple.tupleExact _) (wpAny_newObj_type (wpAny_pure ⟨_, rfl, wpAny_pure h⟩) htake)
    | exact wpAny_bind (m := Builtin.Tuple.tupleExact _) (wpAny_newObj_type (wpAny_bind (wpAny_pure (wpAny_pure ⟨_, rfl, wpAny_pure h⟩))) htake)
    | exact wpAny_bind (wpAny_bind (m := Builtin.Tuple.tupleExact _) (wpAny_newObj_type (wpAny_pure (wpAny_pure ⟨_, rfl, wpAny_pure h⟩)) htake))
    | exact wpAny_bind (wpAny_bind (m := Builtin.Tuple.tupleExact _) (wpAny_newObj_type (wpAny_pure ⟨_, rfl, wpAny_pure h⟩) htake))
end

theorem Want.on {α β : Type} {Ex : Exc → Env → Prop} {o : Option α} {f : α → Res β} {P : β → Env → Prop} (h : Want Ex (on o f) P) : ∃ a, o = some a ∧ Want Ex (f a) P := by
  cases o with
  | none => exact False.elim h
  | some a => exact ⟨a, rfl, h⟩
theorem on_inv {α β : Type} {o : Option α} {f : α → Res β} {b : β} {ρ : Env} (h : on o f = .ok b ρ) : ∃ a, o = some a ∧ f a = .ok b ρ := by
  cases o with
  | none => cases h
  | some a => exact ⟨a, rfl, h⟩
theorem RepEV.back {K : PySem.W.Frag} {σ : St} {H H2 H' : Hp} {v : V} {z : EV} (f : ∀ b, H2 b = none → H b = none) (h : RepEV K σ H2 H' v z) : RepEV K σ H H' v z := by
  cases z with
  | val d => exact h
  | fr d => obtain ⟨a, e, n, r⟩ := h; exact ⟨a, e, f a n, r⟩
  | al i => exact h
theorem RepEV.toRV {K : PySem.W.Frag} {σ : St} {H H' : Hp} {v : V} {d : PyData} (h : RepEV K σ H H' v (.val d)) : RepRV K σ H' v (.dat d) := h
theorem RNew.of {G : Gh} {K : PySem.W.Frag} {md : Rm} {σ : St} {ρ : Env} {H : Hp} {Q : VK} {z : EV} (R : RS G K md σ ρ H)
    (p : ∀ v H', Fr σ ρ H H' → Sub ρ ρ → RS G K md σ ρ H' → RepEV K σ H H' v z → Q v H') : RNew K H Q z := fun v H' e r => by
  refine p v H' (Fr.grow e) (Sub.refl ρ) (R.grow e) ?_
  cases z with
  | val d => exact r
  | fr d => exact r
  | al i => exact False.elim r
/-- what comes behind -/
abbrev Aft (G : Gh) (K : PySem.W.Frag) (md : Rm) (σ : St) (ρ : Env) (H : Hp) (Q : VK) : EV → Env → Prop := fun z ρ' => ∀ v H', Fr σ ρ H H' → Sub ρ ρ' → RS G K md σ ρ' H' → RepEV K σ H H' v z → Q v H'
theorem Aft.back {G : Gh} {K : PySem.W.Frag} {md : Rm} {σ : St} {ρ ρ1 : Env} {H H1 : Hp} {Q : VK} {z : EV} {ρ' : Env} (fr : Fr σ ρ H H1) (sb : Sub ρ ρ1) (p : Aft G K md σ ρ H Q z ρ') : Aft G K md σ ρ1 H1 Q z ρ' :=
  fun v H' fr' sb' R' rep => p v H' (fr.trans sb fr') (sb.trans sb') R' (rep.back fr.2)
section
variable {K : PySem.W.Frag} {md : Rm} {Wx : L2.WX} {σ : St} {H : Hp} {Q : VK}
theorem one {fa : Env → Res EV} {Fn : EV → Env → Res EV} {r : V → Hp → VK → Prop} (w : tE K md Wx (fun ρ => (fa ρ).bind fun x ρ => Fn x ρ) σ H Q)
    (g : ∀ G ρ x v H1, RS G K md σ ρ H1 → RepRV K σ H1 v (toR x) → Want (ExO G K md Wx) (Fn x ρ) (Aft G K md σ ρ H1 Q) → r v H1 Q) : tUn r (tR K md Wx fa) σ H Q := by
  obtain ⟨G, ρ, R, w⟩ := w
  exact ⟨G, ρ, R, w.bind.mono fun x ρ1 w1 v H1 fr1 sb1 R1 rep1 => g G ρ1 x v H1 R1 rep1 (w1.mono fun z ρ' p => Aft.back fr1 sb1 p)⟩
theorem two {fa fb : Env → Res EV} {Fn : EV → EV → Env → Res EV} {r : R2} (w : tE K md Wx (fun ρ => (fa ρ).bind fun x ρ => (fb ρ).bind fun y ρ => Fn x y ρ) σ H Q)
    (g : ∀ G ρ x y v u H2, RS G K md σ ρ H2 → RepRV K σ H2 v (toR x) → RepRV K σ H2 u (toR y) → Want (ExO G K md Wx) (Fn x y ρ) (Aft G K md σ ρ H2 Q) → r v u H2 Q) : tOp r (tR K md Wx fa) (tR K md Wx fb) σ H Q := by
  obtain ⟨G, ρ, R, w⟩ := w
  exact ⟨G, ρ, R, w.bind.mono fun x ρ1 w1 v H1 fr1 sb1 R1 rep1 => ⟨G, ρ1, R1, w1.bind.mono fun y ρ2 w2 u H2 fr2 sb2 R2 rep2 =>
    g G ρ2 x y v u H2 R2 (rep1.mono (R1.ext fr2)) rep2 (w2.mono fun z ρ' p => Aft.back (fr1.trans sb1 fr2) (sb1.trans sb2) p)⟩⟩
end
section
variable (md : Rm) (en : En) (Wx : L2.WX)
/-- the expression e is what m says -/
def PD (X : Cx) (e : Expr) (m : ME) : Prop := PE X e (tE X.K md Wx (evalE md.l en m))
def TD (X : Cx) (e : Expr) (m : ME) : Prop := PT X e (tTr X.K md Wx (evalT md.l en m))
end
section
variable {md : Rm} {en : En} {Wx : L2.WX} {X : Cx} {a b c : Expr} {ma mb mc : ME} {pos : Pos}
theorem pd_int {i : Int} {j : Nat} : PD md en Wx X (.Constant (.int i) j pos) (.c (.int i)) := PE.imp pe_int fun σ H Q ⟨G, ρ, R, w⟩ => w (.int i) H Fr.refl (Sub.refl ρ) R (.int i)
theorem pd_bl {i : Bool} {j : Nat} : PD md en Wx X (.Constant (.bool i) j pos) (.c (.bool i)) := PE.imp pe_bl fun σ H Q ⟨G, ρ, R, w⟩ => w (.bl i) H Fr.refl (Sub.refl ρ) R (.bl i)
theorem pd_str {i : Str} {j : Nat} : PD md en Wx X (.Constant (.str i) j pos) (.c (.str i)) := PE.imp pe_str fun σ H Q ⟨G, ρ, R, w⟩ => w (.str i) H Fr.refl (Sub.refl ρ) R (.str i)
theorem pd_non {j : Nat} : PD md en Wx X (.Constant .none j pos) (.c .none) := PE.imp pe_non fun σ H Q ⟨G, ρ, R, w⟩ => w .non H Fr.refl (Sub.refl ρ) R .non
theorem pd_glob {x : Str} {v : V} {u : Value} {d : PyData} (hg : Gl X x) (hm : X.mg x = some u) (r : RelV v u) (rp : ∀ H, Rep X.K H v d) (hd : (x == ("__debug__" : Str)) = false := by decide) : PD md en Wx X (.Name x pos) (.c d) :=
  PE.imp (pe_glob hg hm r hd) fun σ H Q ⟨G, ρ, R, w⟩ => w v H Fr.refl (Sub.refl ρ) R (rp H)
theorem pd_v (i : Nat) {x : Str} (hN : X.N[i]? = some x) (hv : Vis X.env.scope x) (hd : (x == ("__debug__" : Str)) = false := by decide) (hcd : (x == ("__classdict__" : Str)) = false := by decide) : PD md en Wx X (.Name x pos) (.v i) := by
  refine PE.imp (pe_var hN hv hd hcd) fun σ H Q ⟨G, ρ, R, w⟩ => ?_
  have w : Want _ (match ρ[i]? with
    | some (.val d) => Res.ok (EV.val d) ρ
    | some (.own _) => .ok (.al i) ρ
    | _ => .stuck) (Aft G X.K md σ ρ H Q) := w
  cases e : ρ[i]? with
  | none => rw [e] at w; exact False.elim w
  | some s =>
    rw [e] at w
    cases s with
    | un => exact False.elim w
    | exc x => exact False.elim w
    | clo => exact False.elim w
    | val d =>
      obtain ⟨v, h1, h2⟩ := R.val i d e
      exact ⟨v, h1, w v H Fr.refl (Sub.refl ρ) R h2⟩
    | own d =>
      obtain ⟨v, h1, h2⟩ := R.own i d e
      exact ⟨v, h1, w v H Fr.refl (Sub.refl ρ) R h1⟩
theorem pd_bin (o : BOp) (ha : PD md en Wx X a ma) (hb : PD md en Wx X b mb) : PD md en Wx X (.BinOp a (bop o) b pos) (.bin o ma mb) := by
  refine PE.imp (pe_op (op_bin o) (PE.toR ha) (PE.toR hb)) fun σ H Q w => two w fun G ρ x y v u H2 R r1 r2 w => ?_
  obtain ⟨d1, e1, w⟩ := Want.on w
  obtain ⟨d2, e2, w⟩ := Want.on w
  obtain ⟨r, e3, p⟩ := Want.ofO w
  exact ⟨d1, d2, r, r1.rd R e1, r2.rd R e2, e3, RNew.of R p⟩
theorem pd_neg (ha : PD md en Wx X a ma) : PD md en Wx X (.UnaryOp .USub a pos) (.neg ma) := by
  refine PE.imp (pe_un un_neg (PE.toR ha)) fun σ H Q w => one w fun G ρ x v H1 R r1 w => ?_
  cases x with
  | val d =>
    cases d with
    | int i =>
      have r1 : Rep X.K H1 v (.int i) := r1
      cases r1
      exact ⟨i, rfl, (RNew.of R w).here (.int _)⟩
    | _ => exact False.elim w
  | _ => exact False.elim w
theorem cmp_of {G : Gh} {K : PySem.W.Frag} {σ : St} {ρ : Env} {H : Hp} {Q : VK} {o : COp} {x y : EV} {v u : V} (R : RS G K md σ ρ H) (r1 : RepRV K σ H v (toR x)) (r2 : RepRV K σ H u (toR y)) {Ex : Exc → Env → Prop} {F : Bool → Res EV} {P : EV → Env → Prop}
    (w : Want Ex (on (deref ρ (toR x)) fun x => on (deref ρ (toR y)) fun y => on (cmpD o x y) F) P) (g : ∀ b, Want Ex (F b) P → Q (.bl b) H) : rCmpD K o v u H Q := by
  obtain ⟨d1, e1, w⟩ := Want.on w
  obtain ⟨d2, e2, w⟩ := Want.on w
  obtain ⟨k, e3, p⟩ := Want.on w
  exact ⟨d1, d2, k, r1.rd R e1, r2.rd R e2, e3, g k p⟩
theorem pd_cmp (o : COp) (hu : X.A.units + 65 < cLine) (ha : PD md en Wx X a ma) (hb : PD md en Wx X b mb) (hm : behindInMarks (cop o) b = false) : PD md en Wx X (.Compare a [cop o] [b] pos) (.cmp o ma mb) := by
  refine PE.imp (pe_cmpR (op_cmp hu o) (PE.toR ha) (PE.toR hb) hm) fun σ H Q w => two w fun G ρ x y v u H2 R r1 r2 w => ?_
  exact cmp_of R r1 r2 w fun k w => (RNew.of R w).here (.bl _)
theorem Want.mono_eq {α : Type} {Ex : Exc → Env → Prop} {r : Res α} {P P' : α → Env → Prop} (h : Want Ex r P) (g : ∀ a ρ, r = .ok a ρ → P a ρ → P' a ρ) : Want Ex r P' := by
  cases r with
  | ok a ρ => exact g _ _ rfl h
  | exc x ρ => exact h
  | stuck => exact h
theorem bind_inv {α β : Type} {r : Res α} {f : α → Env → Res β} {b : β} {ρ : Env} (h : r.bind f = .ok b ρ) : ∃ a ρ', r = .ok a ρ' ∧ f a ρ' = .ok b ρ := by
  cases r with
  | ok a ρ' => exact ⟨a, ρ', rfl, h⟩
  | exc x ρ' => cases h
  | stuck => cases h
theorem cmp_bool {ρ ρ' : Env} {o : COp} {z : EV} (h : evalE md.l en (.cmp o ma mb) ρ = .ok z ρ') : ∃ k, z = .val (.bool k) := by
  obtain ⟨x, ρ1, _, h⟩ := bind_inv h
  obtain ⟨y, ρ2, _, h⟩ := bind_inv h
  obtain ⟨_, _, h⟩ := on_inv h
  obtain ⟨_, _, h⟩ := on_inv h
  obtain ⟨k, _, h⟩ := on_inv h
  cases h
  exact ⟨k, rfl⟩
theorem chain_bool {ρ ρ' : Env} {o o' : COp} {z : EV} (h : evalE md.l en (.chain o o' ma mb mc) ρ = .ok z ρ') : ∃ k, z = .val (.bool k) := by
  obtain ⟨x, ρ1, _, h⟩ := bind_inv h
  obtain ⟨y, ρ2, _, h⟩ := bind_inv h
  obtain ⟨_, _, h⟩ := on_inv h
  obtain ⟨_, _, h⟩ := on_inv h
  obtain ⟨k, _, h⟩ := on_inv h
  cases k with
  | false => cases h; exact ⟨_, rfl⟩
  | true =>
    obtain ⟨w, ρ4, _, h⟩ := bind_inv (show (evalE md.l en mc ρ2).bind _ = _ from h)
    obtain ⟨_, _, h⟩ := on_inv h
    obtain ⟨_, _, h⟩ := on_inv h
    obtain ⟨k, _, h⟩ := on_inv h
    cases h
    exact ⟨k, rfl⟩
/-- a test of what is a bool -/
theorem tE_of_test {m : ME} {σ : St} {H : Hp} {K : PySem.W.Frag} {Q : Bool → Hp → Prop} (hb : ∀ ρ ρ' z, evalE md.l en m ρ = .ok z ρ' → ∃ k, z = .val (.bool k)) (w : tTr K md Wx (evalT md.l en m) σ H Q) :
    tE K md Wx (evalE md.l en m) σ H fun x H' => ∃ k, x = .bl k ∧ Q k H' := by
  obtain ⟨G, ρ, R, w⟩ := w
  refine ⟨G, ρ, R, w.bind.mono_eq fun z ρ' e w v H' fr sb R' rep => ?_⟩
  obtain ⟨k, rfl⟩ := hb _ _ _ e
  have rep : Rep K H' v (.bool k) := rep
  cases rep
  exact ⟨k, rfl, w H' fr sb R'⟩
theorem td_cmp (o : COp) (hu : X.A.units + 65 < cLine) (ha : PD md en Wx X a ma) (hb : PD md en Wx X b mb) (hm : behindInMarks (cop o) b = false) : TD md en Wx X (.Compare a [cop o] [b] pos) (.cmp o ma mb) := by
  refine PT.imp (pt_cmpR (op_cmp hu o) (PE.toR ha) (PE.toR hb) hm) fun σ H Q w => ?_
  exact two (tE_of_test (fun _ _ _ => cmp_bool) w) fun G ρ x y v u H2 R r1 r2 w => cmp_of R r1 r2 w fun k w => (RNew.of R w).here (.bl _)
/-- a < b < c -/
theorem chain_red {o o' : COp} {σ : St} {H : Hp} {Q : VK} {K : PySem.W.Frag} (w : tE K md Wx (evalE md.l en (.chain o o' ma mb mc)) σ H Q) :
    tChain (rCmpD K o) (rCmpD K o') (tR K md Wx (evalE md.l en ma)) (tR K md Wx (evalE md.l en mb)) (tR K md Wx (evalE md.l en mc)) σ H Q := by
  obtain ⟨G, ρ, R, w⟩ := w
  refine ⟨G, ρ, R, w.bind.mono fun x ρ1 w1 v H1 fr1 sb1 R1 rep1 => ⟨G, ρ1, R1, w1.bind.mono fun y ρ2 w2 u H2 fr2 sb2 R2 rep2 => ?_⟩⟩
  have fr : Fr σ ρ H H2 := fr1.trans sb1 fr2
  have sb : Sub ρ ρ2 := sb1.trans sb2
  refine cmp_of R2 (rep1.mono (R1.ext fr2)) rep2 w2 fun k w => ⟨k, rfl, ?_⟩
  cases k with
  | false =>
    rw [if_neg Bool.false_ne_true]
    exact (RNew.of R2 (Aft.back fr sb (show Aft G K md σ ρ H Q (.val (.bool false)) ρ2 from w))).here (.bl _)
  | true =>
    rw [if_pos rfl]
    have w : Want _ ((evalE md.l en mc ρ2).bind _) _ := w
    refine ⟨G, ρ2, R2, w.bind.mono fun z ρ3 w3 t H3 fr3 sb3 R3 rep3 => ?_⟩
    exact cmp_of R3 (rep2.mono (R2.ext fr3)) rep3 w3 fun k w => (RNew.of R3 (Aft.back (fr.trans sb fr3) (sb.trans sb3) (show Aft G K md σ ρ H Q (.val (.bool k)) ρ3 from w))).here (.bl _)
theorem pd_chain (o o' : COp) (hu : X.A.units + 65 < cLine) (ha : PD md en Wx X a ma) (hb : PD md en Wx X b mb) (hc : PD md en Wx X c mc) (hm : lastMarks [cop o, cop o'] [b, c] = false) :
    PD md en Wx X (.Compare a [cop o, cop o'] [b, c] pos) (.chain o o' ma mb mc) :=
  PE.imp (pe_chain (op_cmp hu o) (op_cmp hu o') (PE.toR ha) (PE.toR hb) (PE.toR hc) hm) fun σ H Q w => chain_red w
theorem td_chain (o o' : COp) (hu : X.A.units + 65 < cLine) (ha : PD md en Wx X a ma) (hb : PD md en Wx X b mb) (hc : PD md en Wx X c mc) (hm : lastMarks [cop o, cop o'] [b, c] = false) :
    TD md en Wx X (.Compare a [cop o, cop o'] [b, c] pos) (.chain o o' ma mb mc) :=
  PT.imp (pt_chain (op_cmp hu o) (op_cmp hu o') (PE.toR ha) (PE.toR hb) (PE.toR hc) hm) fun σ H Q w => chain_red (tE_of_test (fun _ _ _ => chain_bool) w)

/-! ### truth -/
theorem tru_of {G : Gh} {K : PySem.W.Frag} {σ : St} {ρ : Env} {H : Hp} {x : EV} {v : V} {α : Type} {Ex : Exc → Env → Prop} {F : Bool → Res α} {P : α → Env → Prop} (R : RS G K md σ ρ H) (r1 : RepRV K σ H v (toR x))
    (w : Want Ex (on ((deref ρ (toR x)).bind truthy) F) P) : ∃ k, TruV K v H k ∧ Want Ex (F k) P := by
  obtain ⟨k, e, w⟩ := Want.on w
  obtain ⟨d, e1, e2⟩ := Option.bind_eq_some_iff.mp e
  exact ⟨k, (r1.rd R e1).tru e2, w⟩
/-- any expression as a test -/
theorem td_truth (ha : PD md en Wx X a ma) (he : ∀ whole, isTrue a X.env whole = (do let v ← whole; standAt a.pos; holding [v] (PySem.truthy v))) : TD md en Wx X a ma := by
  refine PT.imp (pt_truth (PE.toR ha) he) fun σ H Q w => ?_
  obtain ⟨G, ρ, R, w⟩ := w
  refine ⟨G, ρ, R, w.bind.mono fun x ρ1 w1 v H1 fr1 sb1 R1 rep1 => ?_⟩
  obtain ⟨k, hk, w2⟩ := tru_of R1 rep1 w1
  exact ⟨k, hk, w2 H1 fr1 sb1 R1⟩
theorem td_not (ha : TD md en Wx X a ma) : TD md en Wx X (.UnaryOp .Not a pos) (.not ma) := by
  refine PT.imp (pt_not ha) fun σ H Q w => ?_
  obtain ⟨G, ρ, R, w⟩ := w
  refine ⟨G, ρ, R, ?_⟩
  have w : Want _ ((((evalE md.l en ma) ρ).bind _).bind _) _ := w
  show Want _ ((evalE md.l en ma ρ).bind _) _
  cases e : evalE md.l en ma ρ with
  | exc x ρ => rw [e] at w; exact w
  | stuck => rw [e] at w; exact False.elim w
  | ok x ρ1 =>
    rw [e] at w
    simp only [Res.bind_ok] at w ⊢
    cases e2 : (deref ρ1 (toR x)).bind truthy with
    | none => rw [e2] at w; exact False.elim w
    | some k => rw [e2] at w; exact w
theorem td_and {rest : List Expr} (ha : TD md en Wx X a ma) (hb : PW X (.BoolOp .And (b :: rest) pos) (tTr X.K md Wx (evalT md.l en mb))) : PW X (.BoolOp .And (a :: b :: rest) pos) (tTr X.K md Wx (evalT md.l en (.and ma mb))) := by
  refine ⟨fun whole pins s σ H Q I w => (pw_and ha hb).run whole pins s σ H Q I ?_⟩
  obtain ⟨G, ρ, R, w⟩ := w
  refine ⟨G, ρ, R, ?_⟩
  have w : Want _ ((((evalE md.l en ma) ρ).bind _).bind _) _ := w
  show Want _ ((evalE md.l en ma ρ).bind _) _
  cases e : evalE md.l en ma ρ with
  | exc x ρ => rw [e] at w; exact w
  | stuck => rw [e] at w; exact False.elim w
  | ok x ρ1 =>
    rw [e] at w
    simp only [Res.bind_ok] at w ⊢
    cases e2 : (deref ρ1 (toR x)).bind truthy with
    | none => rw [e2] at w; exact False.elim w
    | some k =>
      rw [e2] at w
      cases k with
      | false =>
        have w : Want _ (on ((deref ρ1 (toR x)).bind truthy) fun b => Res.ok b ρ1) _ := w
        rw [e2] at w
        intro H' fr sb R'
        exact iteF (w H' fr sb R')
      | true =>
        intro H' fr sb R'
        refine iteT ⟨G, ρ1, R', Want.mono (r := evalT md.l en mb ρ1) w fun k ρ' p H2 fr2 sb2 R2 => p H2 (fr.trans sb fr2) (sb.trans sb2) R2⟩
theorem td_or {rest : List Expr} (ha : TD md en Wx X a ma) (hb : PW X (.BoolOp .Or (b :: rest) pos) (tTr X.K md Wx (evalT md.l en mb))) : PW X (.BoolOp .Or (a :: b :: rest) pos) (tTr X.K md Wx (evalT md.l en (.or ma mb))) := by
  refine ⟨fun whole pins s σ H Q I w => (pw_or ha hb).run whole pins s σ H Q I ?_⟩
  obtain ⟨G, ρ, R, w⟩ := w
  refine ⟨G, ρ, R, ?_⟩
  have w : Want _ ((((evalE md.l en ma) ρ).bind _).bind _) _ := w
  show Want _ ((evalE md.l en ma ρ).bind _) _
  cases e : evalE md.l en ma ρ with
  | exc x ρ => rw [e] at w; exact w
  | stuck => rw [e] at w; exact False.elim w
  | ok x ρ1 =>
    rw [e] at w
    simp only [Res.bind_ok] at w ⊢
    cases e2 : (deref ρ1 (toR x)).bind truthy with
    | none => rw [e2] at w; exact False.elim w
    | some k =>
      rw [e2] at w
      cases k with
      | true =>
        have w : Want _ (on ((deref ρ1 (toR x)).bind truthy) fun b => Res.ok b ρ1) _ := w
        rw [e2] at w
        intro H' fr sb R'
        exact iteT (w H' fr sb R')
      | false =>
        intro H' fr sb R'
        refine iteF ⟨G, ρ1, R', Want.mono (r := evalT md.l en mb ρ1) w fun k ρ' p H2 fr2 sb2 R2 => p H2 (fr.trans sb fr2) (sb.trans sb2) R2⟩
/-- .. as values -/
theorem pd_one {op} (ha : PD md en Wx X a ma) : PD md en Wx X (.BoolOp op [a] pos) ma := pe_one ha
theorem RepEV.rd {G : Gh} {K : PySem.W.Frag} {σ : St} {ρ : Env} {H H' : Hp} {v : V} {x : EV} {d : PyData} (R : RS G K md σ ρ H') (h : RepEV K σ H H' v x) (e : deref ρ (toR x) = some d) : RdD K H' v d := by
  cases x with
  | val d' => cases e; exact Rep.rd h
  | fr d' => cases e; obtain ⟨_, _, _, r⟩ := h; exact r.rd
  | al i => exact RepRV.rd (r := .al i) R h e
theorem truE_of {G : Gh} {K : PySem.W.Frag} {σ : St} {ρ : Env} {H0 H : Hp} {x : EV} {v : V} {α : Type} {Ex : Exc → Env → Prop} {F : Bool → Res α} {P : α → Env → Prop} (R : RS G K md σ ρ H) (r1 : RepEV K σ H0 H v x)
    (w : Want Ex (on ((deref ρ (toR x)).bind truthy) F) P) : ∃ k, TruV K v H k ∧ Want Ex (F k) P := by
  obtain ⟨k, e, w⟩ := Want.on w
  obtain ⟨d, e1, e2⟩ := Option.bind_eq_some_iff.mp e
  exact ⟨k, (r1.rd R e1).tru e2, w⟩
theorem pd_and {rest : List Expr} (ha : PD md en Wx X a ma) (hb : PD md en Wx X (.BoolOp .And (b :: rest) pos) mb) : PD md en Wx X (.BoolOp .And (a :: b :: rest) pos) (.and ma mb) := by
  refine PE.imp (pe_andT ha hb) fun σ H Q w => ?_
  obtain ⟨G, ρ, R, w⟩ := w
  refine ⟨G, ρ, R, w.bind.mono fun x ρ1 w1 v H1 fr1 sb1 R1 rep1 => ?_⟩
  obtain ⟨k, hk, w2⟩ := truE_of R1 rep1 w1
  refine ⟨k, hk, ?_⟩
  cases k with
  | true => exact iteT ⟨G, ρ1, R1, Want.mono (r := evalE md.l en mb ρ1) w2 fun z ρ' p => Aft.back fr1 sb1 p⟩
  | false => exact iteF ((show Aft G X.K md σ ρ H Q x ρ1 from w2) v H1 fr1 sb1 R1 rep1)
theorem pd_or {rest : List Expr} (ha : PD md en Wx X a ma) (hb : PD md en Wx X (.BoolOp .Or (b :: rest) pos) mb) : PD md en Wx X (.BoolOp .Or (a :: b :: rest) pos) (.or ma mb) := by
  refine PE.imp (pe_orT ha hb) fun σ H Q w => ?_
  obtain ⟨G, ρ, R, w⟩ := w
  refine ⟨G, ρ, R, w.bind.mono fun x ρ1 w1 v H1 fr1 sb1 R1 rep1 => ?_⟩
  obtain ⟨k, hk, w2⟩ := truE_of R1 rep1 w1
  refine ⟨k, hk, ?_⟩
  cases k with
  | false => exact iteF ⟨G, ρ1, R1, Want.mono (r := evalE md.l en mb ρ1) w2 fun z ρ' p => Aft.back fr1 sb1 p⟩
  | true => exact iteT ((show Aft G X.K md σ ρ H Q x ρ1 from w2) v H1 fr1 sb1 R1 rep1)
theorem pd_not (ha : PD md en Wx X a ma) : PD md en Wx X (.UnaryOp .Not a pos) (.not ma) := by
  refine PE.imp (pe_notT (PE.toR ha)) fun σ H Q w => ?_
  refine one (r := fun x H1 Q => ∃ k, TruV X.K x H1 k ∧ Q (.bl (!k)) H1) w fun G ρ x v H1 R r1 w => ?_
  obtain ⟨k, hk, w2⟩ := tru_of R r1 w
  exact ⟨k, hk, (RNew.of R w2).here (.bl _)⟩
theorem pd_ite (hc : TD md en Wx X c mc) (ha : PD md en Wx X a ma) (hb : PD md en Wx X b mb) : PD md en Wx X (.IfExp c a b pos) (.ite mc ma mb) := by
  refine PE.imp (pe_ifExp hc ha hb) fun σ H Q w => ?_
  obtain ⟨G, ρ, R, w⟩ := w
  refine ⟨G, ρ, R, ?_⟩
  have w : Want _ ((evalE md.l en mc ρ).bind _) _ := w
  show Want _ ((evalE md.l en mc ρ).bind _) _
  cases e : evalE md.l en mc ρ with
  | exc x ρ => rw [e] at w; exact w
  | stuck => rw [e] at w; exact False.elim w
  | ok x ρ1 =>
    rw [e] at w
    simp only [Res.bind_ok] at w ⊢
    cases e2 : (deref ρ1 (toR x)).bind truthy with
    | none => rw [e2] at w; exact False.elim w
    | some k =>
      rw [e2] at w
      cases k with
      | true => exact fun H' fr sb R' => iteT ⟨G, ρ1, R', Want.mono (r := evalE md.l en ma ρ1) w fun z ρ' p => Aft.back fr sb p⟩
      | false => exact fun H' fr sb R' => iteF ⟨G, ρ1, R', Want.mono (r := evalE md.l en mb ρ1) w fun z ρ' p => Aft.back fr sb p⟩

/-! ### items and slices -/
theorem pd_idx (ha : PD md en Wx X a ma) (hb : PD md en Wx X b mb) (hs : PlainIx b) : PD md en Wx X (.Subscript a b pos) (.idx ma mb) := by
  refine PE.imp (pe_ix ix_data (PE.toR ha) (PE.toR hb) hs) fun σ H Q w => two w fun G ρ x y v u H2 R r1 r2 w => ?_
  obtain ⟨d1, e1, w⟩ := Want.on w
  obtain ⟨d2, e2, w⟩ := Want.on w
  obtain ⟨r, e3, p⟩ := Want.on w
  exact ⟨d1, d2, r, r1.rd R e1, r2.rd R e2, e3, RNew.of R p⟩
/-- a part of a slice -/
def PP (md : Rm) (en : En) (Wx : L2.WX) (X : Cx) (o : Option Expr) (m : MP) : Prop := PO X o fun σ H Q => ∃ G ρ, RS G X.K md σ ρ H ∧ Want (ExO G X.K md Wx) (evalP md.l en m ρ) fun l ρ' => ∀ H', Fr σ ρ H H' → Sub ρ ρ' → RS G X.K md σ ρ' H' → Q l H'
theorem PO.imp {X : Cx} {e : Option Expr} {t t' : TO} (h : PO X e t) (g : ∀ σ H Q, t' σ H Q → t σ H Q) : PO X e t' :=
  ⟨fun pins s σ H Q I w => h.run pins s σ H Q I (g σ H Q w)⟩
theorem pp_none : PP md en Wx X none .non := PO.imp po_none fun σ H Q ⟨G, ρ, R, w⟩ => w H Fr.refl (Sub.refl ρ) R
theorem pp_some (ha : PD md en Wx X a ma) : PP md en Wx X (some a) (.ex ma) := by
  refine PO.imp (po_some (PE.toV ha)) fun σ H Q ⟨G, ρ, R, w⟩ => ⟨G, ρ, R, Want.mono (r := (evalE md.l en ma ρ).bind settle) w.bind fun d ρ' q v H' fr sb R' rep => ?_⟩
  cases d with
  | int i =>
    cases rep
    exact ⟨i, rfl, (show ∀ H', Fr σ ρ H H' → Sub ρ ρ' → RS G X.K md σ ρ' H' → Q (some i) H' from q) H' fr sb R'⟩
  | _ => exact False.elim q
variable {lo hi : Option Expr} {ml mh : MP}
theorem pd_sl {p2 : Pos} (ha : PD md en Wx X a ma) (hl : PP md en Wx X lo ml) (hh : PP md en Wx X hi mh) : PD md en Wx X (.Subscript a (.Slice lo hi none p2) pos) (.sl ma ml mh) := by
  refine PE.imp (pe_slice sl_data (PE.toR ha) hl hh) fun σ H Q ⟨G, ρ, R, w⟩ => ?_
  refine ⟨G, ρ, R, w.bind.mono fun x ρ1 w v H1 fr1 sb1 R1 rep1 => ⟨G, ρ1, R1, w.bind.mono fun l ρ2 w H2 fr2 sb2 R2 => ⟨G, ρ2, R2, w.bind.mono fun h ρ3 w H3 fr3 sb3 R3 => ?_⟩⟩⟩
  obtain ⟨d, e, w⟩ := Want.on w
  obtain ⟨r, e2, p⟩ := Want.ofO w
  exact ⟨d, r, ((rep1.mono (R1.ext fr2)).mono (R2.ext fr3)).rd R3 e, e2, RNew.of R3 (Aft.back ((fr1.trans sb1 fr2).trans (sb1.trans sb2) fr3) ((sb1.trans sb2).trans sb3) p)⟩
/-- t[::-1] -/
def rRev (K : PySem.W.Frag) : V → Hp → VK → Prop := fun x H Q => ∃ d r, RdD K H x d ∧ revD d = some r ∧ RNew K H Q r
theorem pe_revT {e : Expr} {te : TE} {k : Nat} {p1 p2 p3 pos : Pos} (he : PE X e te) : PE X (.Subscript e (.Slice none none (some (.UnaryOp .USub (.Constant (.int 1) k p1) p2)) p3) pos) (tUn (rRev X.K) te) := by
  refine ⟨fun pins s σ H Q I h => ?_⟩
  refine Subscript_ (thn (he.run pins s σ H _ I h) fun v s1 ⟨x, H1, I1, r1, q1⟩ => ?_)
  obtain ⟨d, r, hd, er, q⟩ := q1
  have hst : PO X (some (.UnaryOp .USub (.Constant (.int 1) k p1) p2)) (tPart (tUn (rU fun i => .int (-i)) (tC (.int 1)))) := po_some (pe_un un_neg pe_int)
  refine wpAny_Slice (thn (po_none.run pins s1 σ H1 (fun o H2 => o = none ∧ H2 = H1) I1 ⟨rfl, rfl⟩) fun vl s2 ⟨l, H2, I2, pl, el, e2⟩ => ?_)
  subst el e2
  refine thn (po_none.run pins s2 σ H2 (fun o H3 => o = none ∧ H3 = H2) I2 ⟨rfl, rfl⟩) fun vu s3 ⟨u, H3, I3, pu, eu, e3⟩ => ?_
  subst eu e3
  refine thn (hst.run pins s3 σ H3 (fun o H4 => o = some (-1) ∧ H4 = H3) I3 ⟨1, rfl, -1, rfl, rfl, rfl⟩) fun vs s4 ⟨o, H4, I4, ps, eo, e4⟩ => ?_
  subst eo e4
  have I5 : Inv X pins σ H4 { s4 with heap := s4.heap.push { cls := .type "slice", data := .fields #[vl, vu, vs] } } := I4.kept (t' := s4.toks) fun b ob q => Heap.get?_push_of_some _ q
  cases d with
  | list ds =>
    cases er
    obtain ⟨a, xs, rfl, hx, rx⟩ := hd
    cases r1
    obtain ⟨its, r, ht, hz⟩ := I5.list hx
    have hlen := r.length
    show wpAny (model X.prog X.w) X.A (subscriptTail e (.Slice none none (some (.UnaryOp .USub (.Constant (.int 1) k p1) p2)) p3) (.ref a) (.ref s4.heap.objs.size)) (EP X pins σ Q) X.xe { s4 with heap := s4.heap.push { cls := .type "slice", data := .fields #[vl, vu, vs] } }
    refine tail_any (ops := [.ref a, .ref s4.heap.objs.size]) ht.isList.typeIs (PySem.slot_list_getitem.lookup) ?_ (by with_unfolding_all rfl)
    refine wpAny_getItem_list_slice ht.isList (Heap.IsSliceOf.new _ vl vu vs) pl pu ps (by decide) ?_ (by rw [List.size_toArray]; omega)
    rw [PySem.W.krv_pick]
    refine ⟨.ref _, _, I5.laid (t' := s4.toks) (o := .lst xs.reverse) (fun b ob q => Heap.get?_push_of_some _ q) (Nat.le_refl _) ?_, rfl, q.list rx.reverse _ (I5.hok.fresh (Nat.le_refl _))⟩
    exact ⟨by rw [List.length_reverse]; exact hz, _, 0, r.reverse, Heap.get?_push_size _ rfl⟩
  | tuple ds =>
    cases er
    obtain ⟨a, xs, rfl, hx, rx⟩ := hd
    cases r1
    obtain ⟨its, r, ht, hz⟩ := I5.tuple hx.1
    have hlen := r.length
    show wpAny (model X.prog X.w) X.A (subscriptTail e (.Slice none none (some (.UnaryOp .USub (.Constant (.int 1) k p1) p2)) p3) (.ref a) (.ref s4.heap.objs.size)) (EP X pins σ Q) X.xe { s4 with heap := s4.heap.push { cls := .type "slice", data := .fields #[vl, vu, vs] } }
    refine tail_any (ops := [.ref a, .ref s4.heap.objs.size]) ht.typeIs (PyProof.Rows.slot_tuple_getitem.lookup) ?_ (by with_unfolding_all rfl)
    cases pl
    cases pu
    cases ps
    refine getItem_tuple_rev ht (Heap.IsSliceOf.new _ _ _ _) ?_ (by rw [List.size_toArray]; omega)
    exact newT I5 r.reverse (by rw [List.length_reverse]; exact hz) (q.tup rx.reverse)
  | _ => cases er
end
end Dn
/-! Den6: displays, isinstance, built-ins -/
namespace Dn
open PySem PySem.Spec PyProof.Rows L2

section
variable {md : Rm} {en : En} {Wx : L2.WX} {X : Cx} {a b c e : Expr} {es : List Expr} {ma mb mc m : ME} {ms : List ME} {pos : Pos}
theorem pd_rev {k : Nat} {p1 p2 p3 : Pos} (ha : PD md en Wx X a ma) : PD md en Wx X (.Subscript a (.Slice none none (some (.UnaryOp .USub (.Constant (.int 1) k p1) p2)) p3) pos) (.rev ma) := by
  refine PE.imp (pe_revT (PE.toR ha)) fun σ H Q w => one w fun G ρ x v H1 R r1 w => ?_
  obtain ⟨d, e, w⟩ := Want.on w
  obtain ⟨r, e2, p⟩ := Want.ofO w
  exact ⟨d, r, r1.rd R e, e2, RNew.of R p⟩
/-! ### displays -/
def VD (md : Rm) (en : En) (Wx : L2.WX) (X : Cx) (es : List Expr) (ms : List ME) : Prop := PA X es (tVs X.K md Wx (evalVs md.l en ms))
theorem vd_nil : VD md en Wx X [] [] := PA.imp pa_nil fun σ H Q ⟨G, ρ, R, w⟩ => w [] H Fr.refl (Sub.refl ρ) R .nil
theorem vd_cons (ha : PD md en Wx X e m) (hr : VD md en Wx X es ms) (hs : starEach (e :: es) X.env = (false, eval e X.env) :: starEach es X.env := by rfl) : VD md en Wx X (e :: es) (m :: ms) := by
  refine PA.imp (pa_cons (PE.toV ha) hr hs) fun σ H Q ⟨G, ρ, R, w⟩ => ?_
  refine ⟨G, ρ, R, w.bind.mono fun d ρ1 w v H1 fr1 sb1 R1 rep1 => ⟨G, ρ1, R1, w.bind.mono fun ds ρ2 w vs H2 fr2 sb2 R2 rep2 => ?_⟩⟩
  have w : ∀ vs H', Fr σ ρ H H' → Sub ρ ρ2 → RS G X.K md σ ρ2 H' → Reps X.K H' vs (d :: ds) → Q vs H' := w
  exact w _ _ (fr1.trans sb1 fr2) (sb1.trans sb2) R2 (.cons (rep1.mono (R1.ext fr2)) rep2)
theorem pd_tup {x1 : Nat} (h : VD md en Wx X es ms) : PD md en Wx X (.Tuple es x1 pos) (.tup ms) := by
  refine PE.imp (pe_tupN h) fun σ H Q ⟨G, ρ, R, w⟩ => ⟨G, ρ, R, w.bind.mono fun ds ρ1 w vs H1 fr1 sb1 R1 rep1 => ?_⟩
  by_cases hz : ds.length ≤ szl
  · rw [if_pos hz] at w
    refine ⟨by rw [rep1.length, ← szl_eq]; exact hz, ?_⟩
    exact (RNew.of R1 (Aft.back fr1 sb1 (show Aft G X.K md σ ρ H Q (.val (.tuple ds)) ρ1 from w))).tup rep1
  · rw [if_neg hz] at w
    exact False.elim w
theorem pd_lst (h : VD md en Wx X es ms) : PD md en Wx X (.List es pos) (.lst ms) := by
  refine PE.imp (pe_lst h) fun σ H Q ⟨G, ρ, R, w⟩ => ⟨G, ρ, R, w.bind.mono fun ds ρ1 w vs H1 fr1 sb1 R1 rep1 => ?_⟩
  by_cases hz : ds.length ≤ szl
  · rw [if_pos hz] at w
    refine ⟨by rw [rep1.length, ← szl_eq]; exact hz, ?_⟩
    exact (RNew.of R1 (Aft.back fr1 sb1 (show Aft G X.K md σ ρ H Q (.fr (.list ds)) ρ1 from w))).list rep1
  · rw [if_neg hz] at w
    exact False.elim w

theorem pd_dnew : PD md en Wx X (.Dict [] [] pos) .dnew :=
  PE.imp pe_dnewK fun σ H Q ⟨G, ρ, R, w⟩ p hp => RNew.of R (show Aft G X.K md σ ρ H Q (.fr (.dict [])) ρ from w) _ _ (Ex.new hp) ⟨p, rfl, hp, p, _, rfl, upd_same, RepKs.nil⟩
theorem dictOf_inv {d : PyData} {kvs : List (PyData × PyData)} (h : dictOf d = some kvs) : d = .dict kvs ∧ isIns kvs = false := by
  cases d with
  | dict l =>
    have h : (if isIns l = true then none else some l) = some kvs := h
    by_cases nI : isIns l = true
    · rw [if_pos nI] at h
      cases h
    · rw [if_neg nI] at h
      cases h
      exact ⟨rfl, Bool.eq_false_iff.mpr nI⟩
  | _ => cases h
theorem rd_dict {G : Gh} {K : PySem.W.Frag} {σ : L2.St} {ρ : Env} {H : Hp} {v : V} {r : RV} {kvs : List (PyData × PyData)} (R : RS G K md σ ρ H) (h : RepRV K σ H v r) (e : (deref ρ r).bind dictOf = some kvs) : ∃ a ps, v = .ref a ∧ Rd H a (.dK ps) ∧ RepKs K H ps kvs := by
  obtain ⟨d, e1, e2⟩ := Option.bind_eq_some_iff.mp e
  obtain ⟨rfl, nI⟩ := dictOf_inv e2
  exact RdD.dct (h.rd R e1) nI
theorem get_rep {K : PySem.W.Frag} {H : Hp} {ps : List (Key × V)} {kvs : List (PyData × PyData)} {k : Key} {t : V} {z : PyData} (r : RepKs K H ps kvs) (rz : Rep K H t z) : Rep K H ((valV ps k).getD t) ((findK k kvs).getD z) := by
  obtain ⟨h1, h2⟩ := r.find k
  cases e : findK k kvs with
  | none => rw [h2 e]; exact rz
  | some d =>
    obtain ⟨v, q, rv⟩ := h1 d e
    rw [q]
    exact rv
theorem key_val {K : PySem.W.Frag} {H : Hp} {v : V} {d : PyData} {k : Key} (h : Rep K H v d) (e : keyOf d = some k) : v = kV k := by
  obtain rfl := keyOf_inv e
  cases k <;> (cases h; rfl)
theorem pd_get2 {o f : Expr} {mo mf : ME} {apos cpos : Pos} (hu : X.A.units + 1 < cLine) (ho : PD md en Wx X o mo) (he : PD md en Wx X e m) (hf : PD md en Wx X f mf) (m2 : M2 X o "get" apos e f cpos := by exact ⟨rfl, rfl, rfl, rfl⟩) : PD md en Wx X (.Call (.Attribute o "get" apos) [e, f] [] cpos) (.get2 mo m mf) := by
  refine PE.imp (pe_dget2 hu (PE.toR ho) (PE.toV he) (PE.toV hf) m2) fun σ H Q ⟨G, ρ, R, w⟩ => ⟨G, ρ, R, w.bind.mono fun x ρ1 w v H1 fr1 sb1 R1 rep1 => ?_⟩
  by_cases hz : ((deref ρ1 (toR x)).bind dictOf).isSome = true
  case neg => rw [if_neg hz] at w; exact False.elim w
  rw [if_pos hz] at w
  obtain ⟨kvs0, e0⟩ := Option.isSome_iff_exists.mp hz
  obtain ⟨a, ps0, rfl, h0, _⟩ := rd_dict R1 rep1 e0
  refine ⟨a, rfl, .inl ⟨ps0, h0⟩, G, ρ1, R1, w.bind.mono fun y ρ2 w u H2 fr2 sb2 R2 rep2 => ⟨G, ρ2, R2, w.bind.mono fun z ρ3 w t H3 fr3 sb3 R3 rep3 => ?_⟩⟩
  obtain ⟨kvs, e1, w⟩ := Want.on w
  obtain ⟨k, ek, w⟩ := Want.on w
  obtain ⟨a', ps, ea, h1, r⟩ := rd_dict R3 ((rep1.mono (R1.ext fr2)).mono (R2.ext fr3)) e1
  cases ea
  exact ⟨valV ps k, .inl ⟨ps, k, h1, (key_val (rep2.mono (R2.ext fr3)) ek), rfl⟩, (show Aft G X.K md σ ρ H Q (.val ((findK k kvs).getD z)) ρ3 from w) _ H3 ((fr1.trans sb1 fr2).trans (sb1.trans sb2) fr3) ((sb1.trans sb2).trans sb3) R3 (get_rep r rep3)⟩
theorem pd_get1 {o : Expr} {mo : ME} {apos cpos : Pos} (hu : X.A.units + 1 < cLine) (ho : PD md en Wx X o mo) (he : PD md en Wx X e m) (m1 : M1 X o "get" apos e cpos := by exact ⟨rfl, rfl, rfl, rfl⟩) : PD md en Wx X (.Call (.Attribute o "get" apos) [e] [] cpos) (.get1 mo m) := by
  refine PE.imp (pe_dget1 hu (PE.toR ho) (PE.toV he) m1) fun σ H Q ⟨G, ρ, R, w⟩ => ⟨G, ρ, R, w.bind.mono fun x ρ1 w v H1 fr1 sb1 R1 rep1 => ?_⟩
  by_cases hz : ((deref ρ1 (toR x)).bind dictOf).isSome = true
  case neg => rw [if_neg hz] at w; exact False.elim w
  rw [if_pos hz] at w
  obtain ⟨kvs0, e0⟩ := Option.isSome_iff_exists.mp hz
  obtain ⟨a, ps0, rfl, h0, _⟩ := rd_dict R1 rep1 e0
  refine ⟨a, rfl, .inl ⟨ps0, h0⟩, G, ρ1, R1, w.bind.mono fun y ρ2 w u H2 fr2 sb2 R2 rep2 => ?_⟩
  obtain ⟨kvs, e1, w⟩ := Want.on w
  obtain ⟨k, ek, w⟩ := Want.on w
  obtain ⟨a', ps, ea, h1, r⟩ := rd_dict R2 (rep1.mono (R1.ext fr2)) e1
  cases ea
  exact ⟨valV ps k, .inl ⟨ps, k, h1, (key_val rep2 ek), rfl⟩, (show Aft G X.K md σ ρ H Q (.val ((findK k kvs).getD .none)) ρ2 from w) _ H2 (fr1.trans sb1 fr2) (sb1.trans sb2) R2 (get_rep r .non)⟩
/-! ### isinstance -/
def tyN : PyData → String
  | .none => "NoneType" | .bool _ => "bool" | .int _ => "int" | .str _ => "str" | .list _ => "list" | .tuple _ => "tuple" | .dict _ => "dict"
def tyS : Ty → String
  | .int => "int" | .str => "str" | .bool => "bool" | .tuple => "tuple" | .list => "list" | .dict => "dict"
/-- a type that tells what the data tells -/
structure KitD (K : PySem.W.Frag) (d : PyData) (t : Value) : Prop where
  one : ∀ T, PySem.W.kitOne K t (.type (tyS T)) = some (isTy d T)
theorem kit_all (d : PyData) (T : Ty) (h : ∀ kvs, d = .dict kvs → isIns kvs = false) : kitB (tyN d) (tyS T) = some (isTy d T) := by
  cases d with
  | dict kvs =>
    have e : isTy (.dict kvs) .dict = !isIns kvs := rfl
    rw [h kvs rfl] at e
    cases T with
    | dict => rw [e]; show kitB "dict" "dict" = some true; decide +kernel
    | _ => (show kitB _ _ = some _; simp only [tyN, tyS, isTy]; decide +kernel)
  | _ => cases T <;> (show kitB _ _ = some _; simp only [tyN, tyS, isTy]; decide +kernel)
theorem kitD_of {K : PySem.W.Frag} {d : PyData} (h : ∀ kvs, d = .dict kvs → isIns kvs = false) : KitD K d (.type (tyN d)) := ⟨fun T => kit_ty (kit_all d T h)⟩
theorem RdD.ty {K : PySem.W.Frag} {H : Hp} {v : V} {d : PyData} (h : RdD K H v d) : ∃ t, TyX K H v t ∧ KitD K d t := by
  cases d with
  | none => cases (show v = V.non from h); exact ⟨_, .base .non, kitD_of fun _ e => nomatch e⟩
  | bool b => cases (show v = V.bl b from h); exact ⟨_, .base (.bl b), kitD_of fun _ e => nomatch e⟩
  | int i => cases (show v = V.int i from h); exact ⟨_, .base (.int i), kitD_of fun _ e => nomatch e⟩
  | str x => cases (show v = V.str x from h); exact ⟨_, .base (.str x), kitD_of fun _ e => nomatch e⟩
  | list l =>
    obtain ⟨a, xs, rfl, h1, _⟩ := h
    refine ⟨.type "list", ?_, kitD_of fun _ e => nomatch e⟩
    rcases h1 with (h1 | ⟨o, h1⟩) | ⟨o, its, n, h1, h2, _⟩
    · exact .base (.lst h1)
    · exact .base (.frz h1)
    · exact .kList h1 h2
  | tuple l =>
    obtain ⟨a, xs, rfl, h1, _⟩ := h
    refine ⟨.type "tuple", ?_, kitD_of fun _ e => nomatch e⟩
    rcases h1 with (h1 | ⟨o, h1⟩) | ⟨o, its, n, h1, h2, _⟩
    · exact .base (.tup h1)
    · exact .fTuple h1
    · exact .kTuple h1 h2
  | dict l =>
    obtain ⟨a, rfl, ⟨ps, h1, r⟩ | h1⟩ := h
    · refine ⟨.type "dict", ?_, kitD_of fun _ e => by cases e; exact r.no⟩
      rcases h1 with h1 | ⟨o, h1⟩
      · exact .base (.dK h1)
      · exact .fDict h1
    · obtain ⟨C, dx, nm, fs, ds, rfl, h1, c, _⟩ := h1
      refine ⟨.ref C, .base (.ins h1 c.cl c.ha c.hn c.htk c.hm), ⟨fun T => ?_⟩⟩
      have e : isTy (.dict ((.none, .str nm) :: ds)) T = false := by cases T <;> rfl
      rw [e]
      exact c.kit _ (by cases T <;> simp [tyS])
theorem kitAny_all {K : PySem.W.Frag} {d : PyData} {t : Value} (h : KitD K d t) : ∀ ts : List Ty, PySem.W.kitAny K t (ts.map fun T => .type (tyS T)) = some (ts.any (isTy d))
  | [] => rfl
  | T :: ts => by
    have ih := kitAny_all h ts
    refine kitAny_cons (h.one T) (fun z => ?_) (fun z => ?_)
    · rw [List.any_cons, z, Bool.false_or]; exact ih
    · rw [List.any_cons, z, Bool.true_or]
def TYs (X : Cx) (es : List Expr) (ts : List Ty) : Prop := PA X es (fun _ H Q => Q (ts.map fun T => V.ty (tyS T)) H)
theorem tys_nil : TYs X [] [] := PA.imp pa_nil fun σ H Q w => w
theorem tys_cons {x : Str} {p : Pos} {ts : List Ty} (T : Ty) (hg : Gl X x) (hm : X.mg x = none) (hv : bootBuiltins x = some (.type (tyS T))) (h : TYs X es ts) (hn : x ≠ "__name__" := by decide) (hd : (x == ("__debug__" : Str)) = false := by decide)
    (hs : starEach (.Name x p :: es) X.env = (false, eval (.Name x p) X.env) :: starEach es X.env := by rfl) : TYs X (.Name x p :: es) (T :: ts) :=
  PA.imp (pa_cons (pe_bltn (v := .ty (tyS T)) hg hm hv rfl hn hd) h hs) fun σ H Q w => w
theorem pd_isi {x : Str} {p q : Pos} (T : Ty) (hi : Gl X "isinstance") (hmi : X.mg "isinstance" = none) (ha : PD md en Wx X a ma) (hg : Gl X x) (hm : X.mg x = none) (hv : bootBuiltins x = some (.type (tyS T))) (hn : x ≠ "__name__" := by decide) (hd : (x == ("__debug__" : Str)) = false := by decide)
    (hs : starEach [a, .Name x q] X.env = (false, eval a X.env) :: starEach [.Name x q] X.env := by rfl) (hpl : (backTo pos (starEach [.Name x q] X.env)).any (·.1) = false := by rfl) :
    PD md en Wx X (.Call (.Name "isinstance" p) [a, .Name x q] [] pos) (.isi ma [T]) := by
  refine PE.imp (pe_callB call_isi hi hmi (by decide +kernel) (pa_cons (PE.toR ha) (pa_cons (pe_bltn (v := .ty (tyS T)) hg hm hv rfl hn hd) pa_nil (by rfl)) hs) (by decide) (by decide) hs hpl) fun σ H Q ⟨G, ρ, R, w⟩ => ?_
  refine ⟨G, ρ, R, w.bind.mono fun x ρ1 w v H1 fr1 sb1 R1 rep1 => ?_⟩
  obtain ⟨d, e, w⟩ := Want.on w
  have hw : [T].any (isTy d) = isTy d T := by simp
  rw [hw] at w
  obtain ⟨t, ht, hk⟩ := (rep1.rd R1 e).ty
  exact ⟨v, _, _, _, _, rfl, .ty _, ht, hk.one T, (RNew.of R1 (Aft.back fr1 sb1 (show Aft G X.K md σ ρ H Q (.val (.bool (isTy d T))) ρ1 from w))).here (.bl _)⟩
theorem paired_cls : ∀ ts : List Ty, Paired ClsV (ts.map fun T => V.ty (tyS T)) (ts.map fun T => Value.type (tyS T))
  | [] => .nil
  | T :: ts => .cons (.ty _) (paired_cls ts)
theorem pd_isiT {p q : Pos} {k : Nat} (ts : List Ty) (hi : Gl X "isinstance") (hmi : X.mg "isinstance" = none) (ha : PD md en Wx X a ma) (ht : TYs X es ts) (hl : ts.length ≤ szl := by decide)
    (hs : starEach [a, .Tuple es k q] X.env = (false, eval a X.env) :: starEach [.Tuple es k q] X.env := by rfl) (hpl : (backTo pos (starEach [.Tuple es k q] X.env)).any (·.1) = false := by rfl) :
    PD md en Wx X (.Call (.Name "isinstance" p) [a, .Tuple es k q] [] pos) (.isi ma ts) := by
  refine PE.imp (pe_callB call_isiT hi hmi (by decide +kernel) (pa_cons (PE.toR ha) (pa_cons (pe_tup ht) pa_nil (by rfl)) hs) (by decide) (by decide) hs hpl) fun σ H Q ⟨G, ρ, R, w⟩ => ?_
  refine ⟨G, ρ, R, w.bind.mono fun x ρ1 w v H1 fr1 sb1 R1 rep1 => ⟨by rw [List.length_map, ← szl_eq]; exact hl, fun t ht => ?_⟩⟩
  obtain ⟨d, e, w⟩ := Want.on w
  have ex := Ex.new (o := .tup (ts.map fun T => V.ty (tyS T))) ht
  have R2 := R1.grow ex
  obtain ⟨ty, hty, hk⟩ := ((rep1.mono ex.ext).rd R2 e).ty
  refine ⟨v, t, _, _, _, _, rfl, upd_same, paired_cls ts, hty, kitAny_all hk ts, ?_⟩
  exact (RNew.of R2 (Aft.back (Fr.trans fr1 sb1 (Fr.grow ex)) (sb1.trans (Sub.refl _)) (show Aft G X.K md σ ρ H Q (.val (.bool (ts.any (isTy d)))) ρ1 from w))).here (.bl _)

/-! ### built-ins -/
abbrev RepRVs (K : PySem.W.Frag) (σ : St) (H : Hp) : List V → List RV → Prop := Paired (RepRV K σ H)
def RD (md : Rm) (en : En) (Wx : L2.WX) (X : Cx) (es : List Expr) (ms : List ME) : Prop := PA X es fun σ H Q => ∃ G ρ, RS G X.K md σ ρ H ∧ Want (ExO G X.K md Wx) (evalRs md.l en ms ρ) fun rs ρ' => ∀ vs H', Fr σ ρ H H' → Sub ρ ρ' → RS G X.K md σ ρ' H' → RepRVs X.K σ H' vs rs → Q vs H'
theorem rd_nil : RD md en Wx X [] [] := PA.imp pa_nil fun σ H Q ⟨G, ρ, R, w⟩ => w [] H Fr.refl (Sub.refl ρ) R .nil
theorem rd_cons (ha : PD md en Wx X e m) (hr : RD md en Wx X es ms) (hs : starEach (e :: es) X.env = (false, eval e X.env) :: starEach es X.env := by rfl) : RD md en Wx X (e :: es) (m :: ms) := by
  refine PA.imp (pa_cons (PE.toR ha) hr hs) fun σ H Q ⟨G, ρ, R, w⟩ => ?_
  refine ⟨G, ρ, R, w.bind.mono fun d ρ1 w v H1 fr1 sb1 R1 rep1 => ⟨G, ρ1, R1, w.bind.mono fun ds ρ2 w vs H2 fr2 sb2 R2 rep2 => ?_⟩⟩
  have w : ∀ vs H', Fr σ ρ H H' → Sub ρ ρ2 → RS G X.K md σ ρ2 H' → RepRVs X.K σ H' vs (toR d :: ds) → Q vs H' := w
  exact w _ _ (fr1.trans sb1 fr2) (sb1.trans sb2) R2 (.cons (rep1.mono (R1.ext fr2)) rep2)
theorem rds_of {G : Gh} {K : PySem.W.Frag} {σ : St} {ρ : Env} {H : Hp} (R : RS G K md σ ρ H) : ∀ {vs : List V} {rs : List RV} {ds : List PyData}, RepRVs K σ H vs rs → rs.mapM (deref ρ) = some ds → RdDs K H vs ds
  | _, _, _, .nil, e => by cases e; exact .nil
  | _, _, _, .cons (b := r) h t, e => by
    rw [List.mapM_cons] at e
    obtain ⟨d, e1, e⟩ := Option.bind_eq_some_iff.mp e
    obtain ⟨ds, e2, e⟩ := Option.bind_eq_some_iff.mp e
    cases e
    exact .cons (RepRV.rd R h e1) (rds_of R t e2)
theorem blt_red {bl : Blt} {σ : St} {H : Hp} {Q : VK} (w : tE X.K md Wx (evalE md.l en (.blt bl ms)) σ H Q) :
    (∃ G ρ, RS G X.K md σ ρ H ∧ Want (ExO G X.K md Wx) (evalRs md.l en ms ρ) fun rs ρ' => ∀ vs H', Fr σ ρ H H' → Sub ρ ρ' → RS G X.K md σ ρ' H' → RepRVs X.K σ H' vs rs → rBlt X.K bl vs H' Q) := by
  obtain ⟨G, ρ, R, w⟩ := w
  refine ⟨G, ρ, R, w.bind.mono fun rs ρ1 w vs H1 fr1 sb1 R1 rep1 => ?_⟩
  obtain ⟨ds, e, w⟩ := Want.on w
  obtain ⟨r, e2, p⟩ := Want.ofO w
  exact ⟨ds, r, rds_of R1 rep1 e, e2, RNew.of R1 (Aft.back fr1 sb1 p)⟩
theorem pd_bltB {x : Str} {p : Pos} {id : String} (bl : Blt) (hc : CallR X (.builtin id) (rBlt X.K bl)) (hg : Gl X x) (hm : X.mg x = none) (hv : bootBuiltins x = some (.builtin id)) (ha : RD md en Wx X (e :: es) ms) (hn : x ≠ "__name__" := by decide) (hdb : (x == ("__debug__" : Str)) = false := by decide)
    (he : starEach (e :: es) X.env = (false, eval e X.env) :: starEach es X.env := by rfl) (hpl : (backTo pos (starEach es X.env)).any (·.1) = false := by rfl) : PD md en Wx X (.Call (.Name x p) (e :: es) [] pos) (.blt bl ms) :=
  PE.imp (pe_callB hc hg hm hv ha hn hdb he hpl) fun σ H Q w => blt_red w
theorem pd_bltT {x : Str} {p : Pos} {id : String} (bl : Blt) (hc : CallR X (.type id) (rBlt X.K bl)) (hg : Gl X x) (hm : X.mg x = none) (hv : bootBuiltins x = some (.type id)) (ha : RD md en Wx X (e :: es) ms) (hn : x ≠ "__name__" := by decide) (hdb : (x == ("__debug__" : Str)) = false := by decide)
    (he : starEach (e :: es) X.env = (false, eval e X.env) :: starEach es X.env := by rfl) (hpl : (backTo pos (starEach es X.env)).any (·.1) = false := by rfl) : PD md en Wx X (.Call (.Name x p) (e :: es) [] pos) (.blt bl ms) :=
  PE.imp (pe_callTy hc hg hm hv ha hn hdb he hpl) fun σ H Q w => blt_red w
end
end Dn
/-! Den7: calls -/
namespace Dn
open PySem PySem.Spec PyProof.Rows L2

/-! ### what a def promises -/
def ArgS (K : PySem.W.Frag) (H : Hp) (v : V) : Slot → Prop
  | .val d => Rep K H v d
  | .own d => RepO K H v d
  | _ => False
def AOwn (vs : List V) (ss : List Slot) (b : Addr) : Prop := ∃ (i : Nat) (d : PyData), ss[i]? = some (.own d) ∧ vs[i]? = some (.ref b)
structure ArgsOk (K : PySem.W.Frag) (md : List Bool) (H : Hp) (vs : List V) (ss : List Slot) : Prop where
  rep : Paired (ArgS K H) vs ss
  dis : ∀ (i j : Nat) (b : Addr) d e, ss[i]? = some (.own d) → ss[j]? = some (.own e) → vs[i]? = some (.ref b) → vs[j]? = some (.ref b) → i = j
  md : ∀ (i : Nat) d, ss[i]? = some (.own d) → md[i]? = some true
/-- at the end: the lists that were handed in -/
def OutsOk (K : PySem.W.Frag) (H : Hp) (vs : List V) (ss outs : List Slot) : Prop := ∀ (i : Nat) d v, ss[i]? = some (.own d) → vs[i]? = some v → ∃ s, outs[i]? = some s ∧ ArgS K H v s
def WantC (r : CRes) (P : EV → List Slot → Prop) (E : Exc → List Slot → Prop) : Prop := match r with
  | .ok e outs => P e outs
  | .exc x outs => E x outs
  | .stuck => False
/-- what was not handed in stays, tables may grow -/
def Kp (H H' : Hp) (vs : List V) (ss : List Slot) : Prop := (∀ b u, H b = some u → ¬ AOwn vs ss b → (∀ ps, u ≠ .tbl ps) → H' b = some u) ∧ ∀ b, H' b = none → H b = none
def pOk (K : PySem.W.Frag) (T : List (Addr × Str)) (vs : List V) (ss : List Slot) (H : Hp) (Q : VK) : EV → List Slot → Prop := fun e outs => ∀ v H', Kp H H' vs ss → LamX.Tabs T H' → RepN K H H' v e → OutsOk K H' vs ss outs → Q v H'
def pEx (K : PySem.W.Frag) (cl : List (Addr × Option Str)) (T : List (Addr × Str)) (vs : List V) (ss : List Slot) (H : Hp) (E : XK) : Exc → List Slot → Prop := fun x outs => ∀ cls d H', Kp H H' vs ss → LamX.Tabs T H' → RepX K cl H' x cls d → OutsOk K H' vs ss outs → E cls d H'
def spF (K : PySem.W.Frag) (cl : List (Addr × Option Str)) (T : List (Addr × Str)) (md : List Bool) (f : List Slot → CRes) : Sp := fun vs H Q E => ∃ ss, ArgsOk K md H vs ss ∧ LamX.Tabs T H ∧ WantC (f ss) (pOk K T vs ss H Q) (pEx K cl T vs ss H E)
/-- a def, where no repr runs around -/
structure FnG (P : Program) (w : World) (K : PySem.W.Frag) (mg : Str → Option Value) (base : Heap) (k : Nat) (f : Addr) (fd : FuncData) (ps : List Str) (sp : Sp) : Prop where
  len : ∀ vs H Q E, sp vs H Q E → vs.length = ps.length
  run : ∀ (A : Around) (outer : List PySem.Env) (s : Shared) (H : Hp) (args : Args) (us : List Value) (vs : List V) (Q : VK) (E : XK), Room k A → A.guards = some [] → Env0 P w K mg base A outer s H → BindsTo s fd args (ps.zip us) → Vals vs us → sp vs H Q E →
    codeAny (model P w) A (.call (.ref f) args) (CR (L2.CX P w) outer P w H s Q E) s
section
variable {X : Cx} {k : Nat} {f : Addr} {fd : FuncData} {ps : List Str} {sp : Sp} {ds : List Value} {dvs : List V} {x : Str} {p pos : Pos} {e : Expr} {es : List Expr} {t : TA} {Wx : L2.WX}
theorem run_fnG {pins : List (Addr × Obj)} {σ : L2.St} {H : Hp} {s : Shared} {Q : VK} {us : List Value} {vs : List V} (tk : L2.Takes X Wx) (F : FnG X.prog X.w X.K X.mg X.base k f fd ps sp) (hr : Room k X.A) (hgd : X.A.guards = some []) (hb : Binds X.K fd ps [])
    (I : L2.Inv X pins σ H s) (r : Vals vs us) (h : sp vs H Q (WE Wx σ)) : wpAny (model X.prog X.w) X.A (PySem.call (.ref f) us) (EP X pins σ Q) X.xe s := by
  have hl : us.length = ps.length := by rw [← r.length]; exact F.len _ _ _ _ h
  have hb' := hb s us I.kIn (by rw [List.append_nil]; exact hl)
  rw [List.append_nil] at hb'
  refine wpAny_call (codeAny_mono (F.run X.A X.stack s H ⟨us, []⟩ us vs Q _ hr hgd I.env0 hb' r h) fun r s' hq => ?_)
  cases r with
  | error e => exact L2.passAt tk σ pins H s e s' I hq
  | ok fl =>
    cases fl with
    | ret u => exact I.after hq
    | next => exact False.elim hq
    | brk => exact False.elim hq
    | cont => exact False.elim hq
theorem pe_callG (tk : L2.Takes X Wx) (F : FnG X.prog X.w X.K X.mg X.base k f fd ps sp) (hr : Room k X.A) (hgd : X.A.guards = some []) (hg : Gl X x) (hm : X.mg x = some (.ref f)) (hk : PySem.W.keepIn X.K (.ref f) = true) (hb : Binds X.K fd ps [])
    (ha : PA X (e :: es) t) (hdb : (x == ("__debug__" : Str)) = false := by decide) (he : starEach (e :: es) X.env = (false, eval e X.env) :: starEach es X.env := by rfl) (hpl : (backTo pos (starEach es X.env)).any (·.1) = false := by rfl) :
    PE X (.Call (.Name x p) (e :: es) [] pos) (fun σ H Q => t σ H fun vs H1 => sp vs H1 Q (WE Wx σ)) := by
  refine ⟨fun pins s σ H Q I h => ?_⟩
  refine wpAny_Call_Name_kw (ld_glob I hg hm ?_ hdb)
  refine PySem.W.callWith_K (h₀ := X.base) I.ok.mod.kin hk (thn (ha.run pos pins s σ H _ I h) fun us s1 ⟨vs, H1, I1, r, q⟩ => ⟨I1.kIn, ?_⟩) he hpl
  exact run_fnG tk F hr hgd hb I1 r q
theorem pe_callG0 (tk : L2.Takes X Wx) (F : FnG X.prog X.w X.K X.mg X.base k f fd ps sp) (hr : Room k X.A) (hgd : X.A.guards = some []) (hg : Gl X x) (hm : X.mg x = some (.ref f)) (hk : PySem.W.keepIn X.K (.ref f) = true) (hb : Binds X.K fd ps [])
    (hdb : (x == ("__debug__" : Str)) = false := by decide) : PE X (.Call (.Name x p) [] [] pos) (fun σ H Q => sp [] H Q (WE Wx σ)) := by
  refine ⟨fun pins s σ H Q I h => ?_⟩
  refine wpAny_Call_Name_kw (ld_glob I hg hm ?_ hdb)
  exact PySem.W.callWith_K0 I.kIn hk (run_fnG (us := []) tk F hr hgd hb I .nil h)
end

/-! ### arguments -/
def RepAV (K : PySem.W.Frag) (σ : St) (H : Hp) (v : V) : AV → Prop
  | .dat d => Rep K H v d
  | .sl i => σ[i]? = some (some v)
theorem RepAV.mono {K : PySem.W.Frag} {σ : St} {H H' : Hp} {v : V} {a : AV} (e : Ext H H') (h : RepAV K σ H v a) : RepAV K σ H' v a := by
  cases a with
  | dat d => exact Rep.mono e h
  | sl i => exact h
theorem PE.toA {X : Cx} {e : Expr} {md : Rm} {Wx : L2.WX} {f : Dn.Env → Res EV} (m : Bool) (h : PE X e (tE X.K md Wx f)) :
    PE X e (fun σ H Q => ∃ G ρ, RS G X.K md σ ρ H ∧ Want (ExO G X.K md Wx) ((f ρ).bind (asArg m)) fun a ρ' => ∀ v H', Fr σ ρ H H' → Sub ρ ρ' → RS G X.K md σ ρ' H' → RepAV X.K σ H' v a → Q v H') := by
  refine PE.lock (PE.toR h) fun σ H Q w => ?_
  obtain ⟨G, ρ, R, w⟩ := w
  refine ⟨G, ρ, R, w.bind.mono fun x ρ' q v H' fr sb R' rep => ?_⟩
  have plain : Want (ExO G X.K md Wx) ((settle x ρ').bind fun d ρ => Res.ok (AV.dat d) ρ) (fun a ρ' => ∀ v H', Fr σ ρ H H' → Sub ρ ρ' → RS G X.K md σ ρ' H' → RepAV X.K σ H' v a → Q v H') →
      (Q v H' ∨ ∃ a u, H' a = some u ∧ Lkb u ∧ ∀ o, Q v (upd H' a (.frz o u))) := fun q => by
    cases x with
    | val d => exact .inl ((show ∀ v H', Fr σ ρ H H' → Sub ρ ρ' → RS G X.K md σ ρ' H' → RepAV X.K σ H' v (.dat d) → Q v H' from q) v H' fr sb R' rep)
    | fr d => exact .inl ((show ∀ v H', Fr σ ρ H H' → Sub ρ ρ' → RS G X.K md σ ρ' H' → RepAV X.K σ H' v (.dat d) → Q v H' from q) v H' fr sb R' rep)
    | al i =>
      have rep : σ[i]? = some (some v) := rep
      have q : Want _ ((match ρ'[i]? with
        | some (.val d) => Res.ok d ρ'
        | some (.own d) => .ok d (ρ'.set i (.val d))
        | _ => .stuck).bind fun d ρ => Res.ok (AV.dat d) ρ) (fun a ρ' => ∀ v H', Fr σ ρ H H' → Sub ρ ρ' → RS G X.K md σ ρ' H' → RepAV X.K σ H' v a → Q v H') := q
      cases z : ρ'[i]? with
      | none => rw [z] at q; exact False.elim q
      | some s =>
        rw [z] at q
        cases s with
        | un => exact False.elim q
        | exc x => exact False.elim q
        | clo => exact False.elim q
        | val d =>
          obtain ⟨v', h1, h2⟩ := R'.val i d z
          rw [rep] at h1; cases h1
          exact .inl (q v H' fr sb R' h2)
        | own d =>
          obtain ⟨a, xs, rfl, h4, lk, ow, L⟩ := lock_slot R' z rep
          exact .inr ⟨a, xs, h4, lk, fun o => q _ _ (fr.trans sb (L o).1) (sb.trans (Sub.set z (.lock _ _))) (L o).2.1 (L o).2.2⟩
  cases m with
  | false => exact plain (by cases x <;> exact q)
  | true =>
    cases x with
    | val d => exact plain q
    | fr d => exact plain q
    | al i => exact .inl ((show ∀ v H', Fr σ ρ H H' → Sub ρ ρ' → RS G X.K md σ ρ' H' → RepAV X.K σ H' v (.sl i) → Q v H' from q) v H' fr sb R' rep)
section
variable {md : Rm} {en : En} {Wx : L2.WX} {X : Cx} {e : Expr} {es : List Expr} {m : ME} {ms : List ME} {pos : Pos}
/-- arguments; a slot's list is handed in only where the mode says so -/
def AD (md : Rm) (en : En) (Wx : L2.WX) (X : Cx) (bs : List Bool) (es : List Expr) (ms : List ME) : Prop := PA X es fun σ H Q => ∃ G ρ, RS G X.K md σ ρ H ∧ Want (ExO G X.K md Wx) (evalAs md.l en bs ms ρ) fun as ρ' => ∀ vs H', Fr σ ρ H H' → Sub ρ ρ' → RS G X.K md σ ρ' H' →
  Paired (RepAV X.K σ H') vs as → (∀ (j i : Nat), as[j]? = some (.sl i) → bs[j]? = some true) → Q vs H'
theorem ad_nil {bs : List Bool} : AD md en Wx X bs [] [] := PA.imp pa_nil fun σ H Q ⟨G, ρ, R, w⟩ => w [] H Fr.refl (Sub.refl ρ) R .nil (fun j i h => by simp at h)
theorem ad_cons {bs : List Bool} (ha : PD md en Wx X e m) (hr : AD md en Wx X bs.tail es ms) (hs : starEach (e :: es) X.env = (false, eval e X.env) :: starEach es X.env := by rfl) : AD md en Wx X bs (e :: es) (m :: ms) := by
  refine PA.imp (pa_cons (PE.toA (bs.head?.getD false) ha) hr hs) fun σ H Q ⟨G, ρ, R, w⟩ => ?_
  refine ⟨G, ρ, R, w.bind.mono_eq fun a ρ1 ea w v H1 fr1 sb1 R1 rep1 => ⟨G, ρ1, R1, w.bind.mono fun as ρ2 w vs H2 fr2 sb2 R2 rep2 md2 => ?_⟩⟩
  have w : ∀ vs H', Fr σ ρ H H' → Sub ρ ρ2 → RS G X.K md σ ρ2 H' → Paired (RepAV X.K σ H') vs (a :: as) → (∀ (j i : Nat), (a :: as)[j]? = some (.sl i) → bs[j]? = some true) → Q vs H' := w
  refine w _ _ (fr1.trans sb1 fr2) (sb1.trans sb2) R2 (.cons (rep1.mono (R1.ext fr2)) rep2) fun j i h => ?_
  cases j with
  | zero =>
    have h : a = .sl i := by simpa using h
    subst h
    obtain ⟨x, ρ0, _, e2⟩ := bind_inv ea
    cases bs with
    | nil =>
      have e2 : (settle x ρ0).bind (fun d ρ => Res.ok (AV.dat d) ρ) = .ok (.sl i) ρ1 := by
        cases x <;> exact e2
      obtain ⟨_, _, _, z⟩ := bind_inv e2
      cases z
    | cons b bs =>
      cases b with
      | true => rfl
      | false =>
        have e2 : (settle x ρ0).bind (fun d ρ => Res.ok (AV.dat d) ρ) = .ok (.sl i) ρ1 := by
          cases x <;> exact e2
        obtain ⟨_, _, _, z⟩ := bind_inv e2
        cases z
  | succ j =>
    have q := md2 j i (by simpa using h)
    cases bs with
    | nil => simp at q
    | cons b bs => simpa using q
end
/-! ### slots handed in and back -/
theorem argSlots_get : ∀ {ρ : Env} {as : List AV} {ss : List Slot}, argSlots ρ as = some ss → as.length = ss.length ∧ ∀ (j : Nat) s, ss[j]? = some s → (∃ d, as[j]? = some (.dat d) ∧ s = .val d) ∨ (∃ i d, as[j]? = some (.sl i) ∧ ρ[i]? = some (.val d) ∧ s = .val d) ∨
    ∃ i d, as[j]? = some (.sl i) ∧ ρ[i]? = some (.own d) ∧ s = .own d ∧ ∀ l, j < l → as[l]? ≠ some (.sl i)
  | ρ, [], ss, h => by
    cases h
    exact ⟨rfl, fun j s h => by simp at h⟩
  | ρ, .dat d :: r, ss, h => by
    obtain ⟨ss', e1, e2⟩ := Option.map_eq_some_iff.mp (show (argSlots ρ r).map (Slot.val d :: ·) = some ss from h)
    subst e2
    obtain ⟨h1, h2⟩ := argSlots_get e1
    refine ⟨by rw [List.length_cons, List.length_cons, h1], fun j s h => ?_⟩
    cases j with
    | zero => exact .inl ⟨d, rfl, by simpa using h.symm⟩
    | succ j =>
      rcases h2 j s (by simpa using h) with ⟨d, a, b⟩ | ⟨i, d, a, b, c⟩ | ⟨i, d, a, b, c, e⟩
      · exact .inl ⟨d, by simpa using a, b⟩
      · exact .inr (.inl ⟨i, d, by simpa using a, b, c⟩)
      · exact .inr (.inr ⟨i, d, by simpa using a, b, c, fun l hl => by
          cases l with
          | zero => omega
          | succ l => simpa using e l (by omega)⟩)
  | ρ, .sl i :: r, ss, h => by
    unfold argSlots at h
    cases z : ρ[i]? with
    | none => simp [z] at h
    | some s0 =>
      cases s0 with
      | un => simp [z] at h
      | exc x => simp [z] at h
      | clo => simp [z] at h
      | val d =>
        simp only [z] at h
        obtain ⟨ss', e1, e2⟩ := Option.map_eq_some_iff.mp h
        subst e2
        obtain ⟨h1, h2⟩ := argSlots_get e1
        refine ⟨by rw [List.length_cons, List.length_cons, h1], fun j s h => ?_⟩
        cases j with
        | zero => exact .inr (.inl ⟨i, d, rfl, z, by simpa using h.symm⟩)
        | succ j =>
          rcases h2 j s (by simpa using h) with ⟨d, a, b⟩ | ⟨i, d, a, b, c⟩ | ⟨i, d, a, b, c, e⟩
          · exact .inl ⟨d, by simpa using a, b⟩
          · exact .inr (.inl ⟨i, d, by simpa using a, b, c⟩)
          · exact .inr (.inr ⟨i, d, by simpa using a, b, c, fun l hl => by
              cases l with
              | zero => omega
              | succ l => simpa using e l (by omega)⟩)
      | own d =>
        simp only [z] at h
        split at h
        · cases h
        rename_i hno
        obtain ⟨ss', e1, e2⟩ := Option.map_eq_some_iff.mp h
        subst e2
        obtain ⟨h1, h2⟩ := argSlots_get e1
        refine ⟨by rw [List.length_cons, List.length_cons, h1], fun j s h => ?_⟩
        cases j with
        | zero =>
          refine .inr (.inr ⟨i, d, rfl, z, by simpa using h.symm, fun l hl q => hno ?_⟩)
          cases l with
          | zero => omega
          | succ l =>
            have q : r[l]? = some (.sl i) := by simpa using q
            exact List.any_eq_true.mpr ⟨_, List.mem_of_getElem? q, by simp⟩
        | succ j =>
          rcases h2 j s (by simpa using h) with ⟨d, a, b⟩ | ⟨i, d, a, b, c⟩ | ⟨i, d, a, b, c, e⟩
          · exact .inl ⟨d, by simpa using a, b⟩
          · exact .inr (.inl ⟨i, d, by simpa using a, b, c⟩)
          · exact .inr (.inr ⟨i, d, by simpa using a, b, c, fun l hl => by
              cases l with
              | zero => omega
              | succ l => simpa using e l (by omega)⟩)
theorem putBack_get : ∀ {as : List AV} {outs : List Slot} {ρ : Env} {j : Nat} {s : Slot}, (putBack as outs ρ)[j]? = some s →
    (ρ[j]? = some s ∧ ∀ (p : Nat) d, as[p]? = some (.sl j) → ρ[j]? = some (.own d) → outs[p]? = none) ∨ (∃ (p : Nat) (d : PyData), as[p]? = some (.sl j) ∧ ρ[j]? = some (.own d) ∧ outs[p]? = some s)
  | [], outs, ρ, j, s, h => .inl ⟨by cases outs <;> exact h, fun p d e => by simp at e⟩
  | .dat d0 :: r, [], ρ, j, s, h => .inl ⟨h, fun p d e _ => by simp⟩
  | .sl i :: r, [], ρ, j, s, h => .inl ⟨h, fun p d e _ => by simp⟩
  | .dat d0 :: r, s0 :: ss, ρ, j, s, h => by
    have h : (putBack r ss ρ)[j]? = some s := h
    rcases putBack_get h with ⟨h1, h2⟩ | ⟨p, d, h1, h2, h3⟩
    · refine .inl ⟨h1, fun p d e q => ?_⟩
      cases p with
      | zero => simp at e
      | succ p => simpa using h2 p d (by simpa using e) q
    · exact .inr ⟨p + 1, d, by simpa using h1, h2, by simpa using h3⟩
  | .sl i :: r, s0 :: ss, ρ, j, s, h => by
    have h : (putBack r ss (match ρ[i]? with | some (.own _) => ρ.set i s0 | _ => ρ))[j]? = some s := h
    by_cases ho : ∃ d, ρ[i]? = some (.own d)
    · obtain ⟨d0, ho⟩ := ho
      rw [ho] at h
      have hi : i < ρ.length := (List.getElem?_eq_some_iff.mp ho).1
      rcases putBack_get h with ⟨h1, h2⟩ | ⟨p, d, h1, h2, h3⟩
      · by_cases hij : i = j
        · subst hij
          rw [List.getElem?_set_self hi] at h1
          cases h1
          exact .inr ⟨0, d0, rfl, ho, rfl⟩
        · rw [List.getElem?_set_ne hij] at h1 h2
          refine .inl ⟨h1, fun p d e q => ?_⟩
          cases p with
          | zero => simp at e; exact absurd e hij
          | succ p => simpa using h2 p d (by simpa using e) q
      · by_cases hij : i = j
        · subst hij
          exact .inr ⟨p + 1, d0, by simpa using h1, ho, by simpa using h3⟩
        · rw [List.getElem?_set_ne hij] at h2
          exact .inr ⟨p + 1, d, by simpa using h1, h2, by simpa using h3⟩
    · have e : (match ρ[i]? with | some (.own _) => ρ.set i s0 | _ => ρ) = ρ := by
        cases z : ρ[i]? with
        | none => rfl
        | some t =>
          cases t with
          | own d => exact absurd ⟨d, z⟩ ho
          | _ => rfl
      rw [e] at h
      rcases putBack_get h with ⟨h1, h2⟩ | ⟨p, d, h1, h2, h3⟩
      · refine .inl ⟨h1, fun p d e q => ?_⟩
        cases p with
        | zero =>
          have e : i = j := by simpa using e
          subst e
          exact absurd ⟨d, q⟩ ho
        | succ p => simpa using h2 p d (by simpa using e) q
      · exact .inr ⟨p + 1, d, by simpa using h1, h2, by simpa using h3⟩
theorem putBack_length : ∀ {as : List AV} {outs : List Slot} {ρ : Env}, (putBack as outs ρ).length = ρ.length
  | [], outs, ρ => by cases outs <;> rfl
  | .dat d0 :: r, [], ρ => rfl
  | .sl i :: r, [], ρ => rfl
  | .dat d0 :: r, s0 :: ss, ρ => putBack_length (as := r) (outs := ss) (ρ := ρ)
  | .sl i :: r, s0 :: ss, ρ => by
    show (putBack r ss (match ρ[i]? with | some (.own _) => ρ.set i s0 | _ => ρ)).length = _
    rw [putBack_length]
    split
    · rw [List.length_set]
    · rfl
section
variable {G : Gh} {K : PySem.W.Frag} {md : Rm} {mdf : List Bool} {σ : St} {ρ : Env} {H H' : Hp} {vs : List V} {as : List AV} {ss outs : List Slot}
theorem Paired.get2 {α β : Type} {F : α → β → Prop} : ∀ {l : List α} {r : List β} {i : Nat} {b : β}, Paired F l r → r[i]? = some b → ∃ a, l[i]? = some a ∧ F a b
  | _, _, _, _, .nil, e => by simp at e
  | _, _, 0, _, .cons h _, e => by simp at e; subst e; exact ⟨_, rfl, h⟩
  | _, _, i + 1, _, .cons _ t, e => by
    obtain ⟨a, h1, h2⟩ := Paired.get2 (i := i) t (by simpa using e)
    exact ⟨a, by simpa using h1, h2⟩
theorem Paired.mk2 {α β : Type} {F : α → β → Prop} : ∀ {l : List α} {r : List β}, l.length = r.length → (∀ (i : Nat) a b, l[i]? = some a → r[i]? = some b → F a b) → Paired F l r
  | [], [], _, _ => .nil
  | a :: l, b :: r, h, g => .cons (g 0 a b rfl rfl) (Paired.mk2 (by simpa using h) fun i a b e1 e2 => g (i + 1) a b (by simpa using e1) (by simpa using e2))
theorem own_arg (rep : Paired (RepAV K σ H) vs as) (ha : argSlots ρ as = some ss) {j : Nat} {d : PyData} (h : ss[j]? = some (.own d)) : ∃ i v, as[j]? = some (.sl i) ∧ ρ[i]? = some (.own d) ∧ vs[j]? = some v ∧ σ[i]? = some (some v) ∧ ∀ l, j < l → as[l]? ≠ some (.sl i) := by
  rcases (argSlots_get ha).2 j _ h with ⟨d', _, e⟩ | ⟨i, d', _, _, e⟩ | ⟨i, d', a, b, e, c⟩
  · cases e
  · cases e
  · cases e
    obtain ⟨v, h1, h2⟩ := Paired.get2 rep a
    exact ⟨i, v, a, b, h1, h2, c⟩
theorem args_ok (R : RS G K md σ ρ H) (rep : Paired (RepAV K σ H) vs as) (hm : ∀ (j i : Nat), as[j]? = some (.sl i) → mdf[j]? = some true) (ha : argSlots ρ as = some ss) : ArgsOk K mdf H vs ss := by
  obtain ⟨hl, hg⟩ := argSlots_get ha
  refine ⟨Paired.mk2 ((Paired.length rep).trans hl) fun j v s hv hs => ?_, fun j k b d e h1 h2 h3 h4 => ?_, fun j d h => ?_⟩
  · rcases hg j s hs with ⟨d, a, rfl⟩ | ⟨i, d, a, b, rfl⟩ | ⟨i, d, a, b, rfl, _⟩
    · obtain ⟨v', q1, q2⟩ := Paired.get2 rep a
      rw [hv] at q1; cases q1
      exact q2
    · obtain ⟨v', q1, q2⟩ := Paired.get2 rep a
      rw [hv] at q1; cases q1
      obtain ⟨v2, q3, q4⟩ := R.val i d b
      have q2 : σ[i]? = some (some v) := q2
      rw [q2] at q3; cases q3
      exact q4
    · obtain ⟨v', q1, q2⟩ := Paired.get2 rep a
      rw [hv] at q1; cases q1
      obtain ⟨v2, q3, q4⟩ := R.own i d b
      have q2 : σ[i]? = some (some v) := q2
      rw [q2] at q3; cases q3
      exact q4
  · obtain ⟨i1, v1, a1, o1, w1, s1, n1⟩ := own_arg rep ha h1
    obtain ⟨i2, v2, a2, o2, w2, s2, n2⟩ := own_arg rep ha h2
    rw [h3] at w1; cases w1
    rw [h4] at w2; cases w2
    have e : i1 = i2 := R.dis i1 i2 b d e o1 o2 s1 s2
    subst e
    rcases Nat.lt_trichotomy j k with z | z | z
    · exact absurd a2 (n1 k z)
    · exact z
    · exact absurd a1 (n2 j z)
  · obtain ⟨i1, v1, a1, _⟩ := own_arg rep ha h
    exact hm j i1 a1
theorem aown_owned (rep : Paired (RepAV K σ H) vs as) (ha : argSlots ρ as = some ss) {b : Addr} (h : AOwn vs ss b) : Owned σ ρ b := by
  obtain ⟨j, d, h1, h2⟩ := h
  obtain ⟨i, v, a1, o1, w1, s1, _⟩ := own_arg rep ha h1
  rw [h2] at w1; cases w1
  exact ⟨i, d, o1, s1⟩
/-- behind a call -/
theorem after_call (R : RS G K md σ ρ H) (rep : Paired (RepAV K σ H) vs as) (ha : argSlots ρ as = some ss) (kth : Kp H H' vs ss) (tb : LamX.Tabs md.T H') (ho : OutsOk K H' vs ss outs) :
    Fr σ ρ H H' ∧ Sub ρ (putBack as outs ρ) ∧ RS G K md σ (putBack as outs ρ) H' := by
  obtain ⟨kp, th⟩ := kth
  have fr : Fr σ ρ H H' := ⟨fun b u e n t => kp b u e (fun q => n (aown_owned rep ha q)) t, th⟩
  have x := R.ext fr
  -- what stands in a slot behind the call
  have out : ∀ {j p : Nat} {d : PyData} {s : Slot}, as[p]? = some (.sl j) → ρ[j]? = some (.own d) → outs[p]? = some s → ∃ v, σ[j]? = some (some v) ∧ ArgS K H' v s := fun {j p d s} a o q => by
    obtain ⟨v, h1, h2⟩ := Paired.get2 rep a
    have hp : p < ss.length := by rw [← (argSlots_get ha).1]; exact (List.getElem?_eq_some_iff.mp a).1
    have hs : ss[p]? = some ss[p] := List.getElem?_eq_getElem hp
    have own : ∃ d, ss[p]? = some (.own d) := by
      rcases (argSlots_get ha).2 p _ hs with ⟨d', a', e⟩ | ⟨i, d', a', b, e⟩ | ⟨i, d', a', b, e, c⟩
      · rw [a] at a'; cases a'
      · rw [a] at a'; cases a'; rw [o] at b; cases b
      · exact ⟨d', by rw [hs, e]⟩
    obtain ⟨d', own⟩ := own
    obtain ⟨s', q1, q2⟩ := ho p d' v own h1
    rw [q] at q1; cases q1
    exact ⟨v, h2, q2⟩
  have sub : Sub ρ (putBack as outs ρ) := ⟨putBack_length.symm, fun j s h => by
    rcases putBack_get h with ⟨h1, _⟩ | ⟨p, d, h1, h2, h3⟩
    · exact ⟨s, h1, .refl s⟩
    · obtain ⟨v, _, q⟩ := out h1 h2 h3
      refine ⟨_, h2, ?_⟩
      cases s with
      | un => exact False.elim q
      | exc e => exact False.elim q
      | clo => exact False.elim q
      | val e => exact .lock _ _
      | own e => exact .own _ _⟩
  refine ⟨fr, sub, ⟨R.len.trans putBack_length.symm, fun j d h => ?_, fun j d h => ?_, fun j k b d e h1 h2 => ?_, fun j b d h1 => ?_, fun b h => R.thr b (th b h), fun b u h n t => ?_, R.fix, fun j s h z => ?_, ⟨tb, fun c q e => kp c _ (R.gl.2 c q e) (fun y => ?_) (fun ps y => ?_)⟩, fun Ha q => (R.anc Ha q).trans x⟩⟩
  · rcases putBack_get h with ⟨h1, _⟩ | ⟨p, d', h1, h2, h3⟩
    · obtain ⟨v, q1, q2⟩ := R.val j d h1
      exact ⟨v, q1, q2.mono x⟩
    · exact out h1 h2 h3
  · rcases putBack_get h with ⟨h1, hn⟩ | ⟨p, d', h1, h2, h3⟩
    · obtain ⟨v, q1, b, u1, rfl, q4, q5⟩ := R.own j d h1
      have r5 := q5.lk
      refine ⟨_, q1, b, u1, rfl, kp b _ q4 (fun q => ?_) r5.nt, q5.mono x⟩
      obtain ⟨p, d', z1, z2⟩ := q
      obtain ⟨i, v, a1, o1, w1, s1, _⟩ := own_arg rep ha z1
      rw [z2] at w1; cases w1
      have e : i = j := R.dis i j b _ _ o1 h1 s1 q1
      subst e
      have z3 := hn p d a1 h1
      obtain ⟨s', q6, _⟩ := ho p d' _ z1 z2
      rw [z3] at q6; cases q6
    · exact out h1 h2 h3
  · obtain ⟨_, p'⟩ := sub.own h1
    obtain ⟨_, q'⟩ := sub.own h2
    exact R.dis j k b _ _ p' q'
  · obtain ⟨_, p'⟩ := sub.own h1
    exact R.adr j b _ p'
  · refine kp b u (R.keep b u h n t) (fun q => ?_) t
    rcases R.adr' (aown_owned rep ha q) with y | y
    · exact n y
    · rw [h] at y; cases y
  · rcases putBack_get h with ⟨h1, _⟩ | ⟨p, d', h1, h2, h3⟩
    · obtain ⟨v, q1, q2⟩ := R.oth j s h1 z
      exact ⟨v, q1, q2.mono x⟩
    · obtain ⟨v, _, q⟩ := out h1 h2 h3
      cases s <;> first | exact False.elim q | cases z
  · obtain ⟨u, e1, l⟩ := R.owned (aown_owned rep ha y)
    rw [R.gl.2 c q e] at e1
    cases e1
    unfold LamX.CodeO at l
    rcases l with ⟨_, z⟩ | ⟨_, z⟩ <;> cases z
  · unfold LamX.CodeO at y
    cases y
end
section
variable {md : Rm} {en : En} {Wx : L2.WX} {X : Cx} {k : Nat} {fa : Addr} {fd : FuncData} {ps : List Str} {x : Str} {p pos : Pos} {e : Expr} {es : List Expr} {ms : List ME}
theorem call_red {f : Nat} {σ : L2.St} {H : Hp} {Q : VK} (w : tE X.K md Wx (evalE md.l en (.call f ms)) σ H Q) :
    ∃ G ρ, RS G X.K md σ ρ H ∧ Want (ExO G X.K md Wx) (evalAs md.l en (en.modes f) ms ρ) fun as ρ' => ∀ vs H', Fr σ ρ H H' → Sub ρ ρ' → RS G X.K md σ ρ' H' → Paired (RepAV X.K σ H') vs as → (∀ (j i : Nat), as[j]? = some (.sl i) → (en.modes f)[j]? = some true) →
      spF X.K md.cl md.T (en.modes f) (en.call f) vs H' Q (WE Wx σ) := by
  obtain ⟨G, ρ, R, w⟩ := w
  refine ⟨G, ρ, R, w.bind.mono fun as ρ1 w vs H1 fr1 sb1 R1 rep1 hm => ?_⟩
  obtain ⟨ss, ha, w⟩ := Want.on w
  refine ⟨ss, args_ok R1 rep1 hm ha, R1.gl.1, ?_⟩
  have w : Want (ExO G X.K md Wx) (match en.call f ss with
      | .ok (.al _) _ => .stuck
      | .ok e outs => .ok e (putBack as outs ρ1)
      | .exc x outs => .exc x (putBack as outs ρ1)
      | .stuck => .stuck) (Aft G X.K md σ ρ H Q) := w
  cases z : en.call f ss with
  | exc x outs =>
    rw [z] at w
    intro cls d H' kp tb rx ho
    obtain ⟨fr2, sb2, R2⟩ := after_call R1 rep1 ha kp tb ho
    exact (show ExO G X.K md Wx x (putBack as outs ρ1) from w) σ cls d H' R2 rx
  | stuck => rw [z] at w; exact False.elim w
  | ok e outs =>
    rw [z] at w
    cases e with
    | al i => exact False.elim w
    | val d =>
      intro v H' kp tb rn ho
      obtain ⟨fr2, sb2, R2⟩ := after_call R1 rep1 ha kp tb ho
      exact (show Aft G X.K md σ ρ H Q (.val d) (putBack as outs ρ1) from w) v H' (fr1.trans sb1 fr2) (sb1.trans sb2) R2 rn
    | fr d =>
      intro v H' kp tb rn ho
      obtain ⟨fr2, sb2, R2⟩ := after_call R1 rep1 ha kp tb ho
      obtain ⟨a, e1, hn, r⟩ := rn
      exact (show Aft G X.K md σ ρ H Q (.fr d) (putBack as outs ρ1) from w) v H' (fr1.trans sb1 fr2) (sb1.trans sb2) R2 ⟨a, e1, fr1.2 a hn, r⟩
theorem pd_call {f : Nat} (tk : L2.Takes X Wx) (F : FnG X.prog X.w X.K X.mg X.base k fa fd ps (spF X.K md.cl md.T (en.modes f) (en.call f))) (hr : Room k X.A) (hgd : X.A.guards = some []) (hg : Gl X x) (hm : X.mg x = some (.ref fa)) (hk : PySem.W.keepIn X.K (.ref fa) = true) (hb : Binds X.K fd ps [])
    (ha : AD md en Wx X (en.modes f) (e :: es) ms) (hdb : (x == ("__debug__" : Str)) = false := by decide) (he : starEach (e :: es) X.env = (false, eval e X.env) :: starEach es X.env := by rfl) (hpl : (backTo pos (starEach es X.env)).any (·.1) = false := by rfl) :
    PD md en Wx X (.Call (.Name x p) (e :: es) [] pos) (.call f ms) :=
  PE.imp (pe_callG tk F hr hgd hg hm hk hb ha hdb he hpl) fun σ H Q w => call_red w
theorem pd_call0 {f : Nat} (tk : L2.Takes X Wx) (F : FnG X.prog X.w X.K X.mg X.base k fa fd ps (spF X.K md.cl md.T (en.modes f) (en.call f))) (hr : Room k X.A) (hgd : X.A.guards = some []) (hg : Gl X x) (hm : X.mg x = some (.ref fa)) (hk : PySem.W.keepIn X.K (.ref fa) = true) (hb : Binds X.K fd ps [])
    (hdb : (x == ("__debug__" : Str)) = false := by decide) : PD md en Wx X (.Call (.Name x p) [] [] pos) (.call f []) :=
  PE.imp (pe_callG0 tk F hr hgd hg hm hk hb hdb) fun σ H Q w => by
    obtain ⟨G, ρ, R, w⟩ := call_red w
    exact w [] H Fr.refl (Sub.refl ρ) R .nil (fun j i h => by simp at h)
end
end Dn
/-! Den8: what is walked, targets, comprehensions -/
namespace Dn
open PySem PySem.Spec PyProof.Rows L2

/-! ### what is walked -/
def ItOk (K : PySem.W.Frag) (J : It) (H0 : Hp) (ds : List PyData) : Prop :=
  (∀ (i : Nat) d H, Ext H0 H → ds[i]? = some d → J.go i H ∧ ∀ x H', J.yld i H x H' → Ex H H' ∧ Rep K H' x d) ∧ ∀ H, Ext H0 H → J.stop ds.length H
section
variable {K : PySem.W.Frag} {H : Hp} {a b : Addr} {xs ys : List V} {ds es : List PyData}
theorem it_list (h : FzL K H a xs) (r : Reps K H xs ds) : ItOk K (Itl K a) H ds := by
  refine ⟨fun i d H1 e hd => ?_, fun H1 e => ⟨xs, (e.fz h).sq, Nat.le_of_eq r.length⟩⟩
  obtain ⟨v, hv, rv⟩ := r.get hd
  refine ⟨⟨xs, v, (e.fz h).sq, hv⟩, fun x H' y => ?_⟩
  obtain ⟨rfl, q⟩ := y
  have q := q xs (e.fz h).sq
  rw [hv] at q; cases q
  exact ⟨Ex.refl _, rv.mono e⟩
theorem it_tup (h : SqT K H a xs) (r : Reps K H xs ds) : ItOk K (Itt K a) H ds := by
  refine ⟨fun i d H1 e hd => ?_, fun H1 e => ⟨xs, e.sqt h, Nat.le_of_eq r.length⟩⟩
  obtain ⟨v, hv, rv⟩ := r.get hd
  refine ⟨⟨xs, v, e.sqt h, hv⟩, fun x H' y => ?_⟩
  obtain ⟨rfl, q⟩ := y
  have q := q xs (e.sqt h)
  rw [hv] at q; cases q
  exact ⟨Ex.refl _, rv.mono e⟩
theorem RepKs.at : ∀ {ps : List (Key × V)} {kvs : List (PyData × PyData)} {i : Nat} {p : PyData × PyData}, RepKs K H ps kvs → kvs[i]? = some p → ∃ k v, ps[i]? = some (k, v) ∧ p.1 = keyD k ∧ Rep K H v p.2
  | _, _, _, _, .nil, e => by simp at e
  | _, _, 0, _, .cons h t, e => by simp at e; subst e; exact ⟨_, _, rfl, rfl, h⟩
  | _, _, i + 1, _, .cons h t, e => by
    obtain ⟨k, v, h1, h2⟩ := RepKs.at (i := i) t (by simpa using e)
    exact ⟨k, v, by simpa using h1, h2⟩
theorem rep_key (k : Key) : Rep K H (kV k) (keyD k) := by
  cases k with
  | inl i => exact .int i
  | inr x => exact .str x
theorem it_keys {o : Obj} {ps : List (Key × V)} {kvs : List (PyData × PyData)} (h : H a = some (.frz o (.dK ps))) (r : RepKs K H ps kvs) : ItOk K (Itk a o ps) H (kvs.map (·.1)) := by
  refine ⟨fun i d H1 e hd => ?_, fun H1 e => ⟨e.frz _ _ _ h, by rw [List.length_map, r.length]; exact Nat.le_refl _⟩⟩
  rw [List.getElem?_map] at hd
  obtain ⟨p, hp, rfl⟩ := Option.map_eq_some_iff.mp hd
  obtain ⟨k, v, h1, h2, h3⟩ := r.at hp
  refine ⟨⟨e.frz _ _ _ h, (List.getElem?_eq_some_iff.mp h1).1⟩, fun x H' y => ?_⟩
  obtain ⟨rfl, k', v', q, rfl⟩ := y
  rw [h1] at q; cases q
  refine ⟨Ex.refl _, ?_⟩
  show Rep K H' (kV k) p.1
  rw [h2]
  exact rep_key k
theorem it_vals {o : Obj} {ps : List (Key × V)} {kvs : List (PyData × PyData)} (h : H a = some (.frz o (.dK ps))) (r : RepKs K H ps kvs) : ItOk K (Itd a o ps) H (kvs.map (·.2)) := by
  refine ⟨fun i d H1 e hd => ?_, fun H1 e => ⟨e.frz _ _ _ h, by rw [List.length_map, r.length]; exact Nat.le_refl _⟩⟩
  rw [List.getElem?_map] at hd
  obtain ⟨p, hp, rfl⟩ := Option.map_eq_some_iff.mp hd
  obtain ⟨k, v, h1, h2, h3⟩ := r.at hp
  refine ⟨⟨e.frz _ _ _ h, (List.getElem?_eq_some_iff.mp h1).1⟩, fun x H' y => ?_⟩
  obtain ⟨rfl, k', q⟩ := y
  rw [h1] at q; cases q
  exact ⟨Ex.refl _, h3.mono e⟩
theorem it_items {o : Obj} {ps : List (Key × V)} {kvs : List (PyData × PyData)} (h : H a = some (.frz o (.dK ps))) (r : RepKs K H ps kvs) : ItOk K (Iti a o ps) H (kvs.map fun p => .tuple [p.1, p.2]) := by
  refine ⟨fun i d H1 e hd => ?_, fun H1 e => ⟨e.frz _ _ _ h, by rw [List.length_map, r.length]; exact Nat.le_refl _⟩⟩
  rw [List.getElem?_map] at hd
  obtain ⟨p, hp, rfl⟩ := Option.map_eq_some_iff.mp hd
  obtain ⟨k, v, h1, h2, h3⟩ := r.at hp
  refine ⟨⟨e.frz _ _ _ h, (List.getElem?_eq_some_iff.mp h1).1⟩, fun x H' y => ?_⟩
  obtain ⟨T, k', v', q, rfl, hT, rfl⟩ := y
  rw [h1] at q; cases q
  have x' := (Ex.new (o := .tup [kV k, v]) hT).ext
  refine ⟨Ex.new hT, .tup ⟨SqT.of upd_same, fun z => by rw [h2] at z; cases k <;> cases z⟩ (.cons ?_ (.cons ((h3.mono e).mono x') .nil))⟩
  show Rep K _ (kV k) p.1
  rw [h2]
  exact rep_key k
theorem it_str (z : Str) : ItOk K (Its z) H (z.cps.toList.map fun c => .str ⟨#[c]⟩) := by
  refine ⟨fun i d H1 e hd => ?_, fun H1 e => by show z.cps.size ≤ _; simp⟩
  rw [List.getElem?_map, Array.getElem?_toList] at hd
  obtain ⟨c, hc, rfl⟩ := Option.map_eq_some_iff.mp hd
  refine ⟨(Array.getElem?_eq_some_iff.mp hc).1, fun x H' y => ?_⟩
  obtain ⟨rfl, c', hc', rfl⟩ := y
  rw [hc] at hc'; cases hc'
  exact ⟨Ex.refl _, .str _⟩
theorem it_range (lo : Int) (n : Nat) : ItOk K (Itr lo n) H ((List.range n).map fun (j : Nat) => .int (lo + (j : Int))) := by
  refine ⟨fun i d H1 e hd => ?_, fun H1 e => by show n ≤ _; simp⟩
  rw [List.getElem?_map] at hd
  obtain ⟨c, hc, rfl⟩ := Option.map_eq_some_iff.mp hd
  obtain ⟨h1, h2⟩ := List.getElem?_eq_some_iff.mp hc
  rw [List.getElem_range] at h2
  subst h2
  refine ⟨show i < n by simpa using h1, fun x H' y => ?_⟩
  obtain ⟨rfl, rfl⟩ := y
  exact ⟨Ex.refl _, .int _⟩
theorem it_enum (h : FzL K H a xs) (r : Reps K H xs ds) : ItOk K (Ite K a) H (ds.zipIdx.map fun (d, j) => .tuple [.int j, d]) := by
  refine ⟨fun i d H1 e hd => ?_, fun H1 e => ⟨xs, (e.fz h).sq, by simp [r.length]⟩⟩
  rw [List.getElem?_map, List.getElem?_zipIdx] at hd
  obtain ⟨⟨d', j⟩, hc, rfl⟩ := Option.map_eq_some_iff.mp hd
  obtain ⟨d2, hd2, e2⟩ := Option.map_eq_some_iff.mp hc
  cases e2
  obtain ⟨v, hv, rv⟩ := r.get hd2
  refine ⟨⟨xs, v, (e.fz h).sq, hv⟩, fun x H' y => ?_⟩
  obtain ⟨T, x', rfl, hT, rfl, q⟩ := y
  have q := q xs (e.fz h).sq
  rw [hv] at q; cases q
  have ex := Ex.new (o := .tup [.int (i : Nat), v]) hT
  refine ⟨ex, .tup ⟨SqT.of upd_same, fun z => nomatch z⟩ ?_⟩
  rw [Nat.zero_add]
  exact .cons (.int _) (.cons ((rv.mono e).mono ex.ext) .nil)
theorem it_zip (h : FzL K H a xs) (r : Reps K H xs ds) (h' : FzL K H b ys) (r' : Reps K H ys es) (hz : ((ds.zip es).all fun (d, d') => !isLib [d, d']) = true) : ItOk K (Itz K a b) H ((ds.zip es).map fun (d, d') => .tuple [d, d']) := by
  refine ⟨fun i d H1 e hd => ?_, fun H1 e => ⟨xs, ys, (e.fz h).sq, (e.fz h').sq, ?_⟩⟩
  · rw [List.getElem?_map] at hd
    obtain ⟨⟨d1, d2⟩, hc, rfl⟩ := Option.map_eq_some_iff.mp hd
    have nl : isLib [d1, d2] = false := by
      have z := List.all_eq_true.mp hz (d1, d2) (List.mem_of_getElem? hc)
      simpa using z
    rw [List.getElem?_zip_eq_some] at hc
    obtain ⟨v, hv, rv⟩ := r.get hc.1
    obtain ⟨u, hu, ru⟩ := r'.get hc.2
    refine ⟨⟨xs, ys, v, u, (e.fz h).sq, (e.fz h').sq, hv, hu⟩, fun x H' y => ?_⟩
    obtain ⟨T, x1, x2, rfl, hT, rfl, q1, q2⟩ := y
    have q1 := q1 xs (e.fz h).sq
    have q2 := q2 ys (e.fz h').sq
    rw [hv] at q1; cases q1
    rw [hu] at q2; cases q2
    have ex := Ex.new (o := .tup [v, u]) hT
    exact ⟨ex, .tup ⟨SqT.of upd_same, fun z => by rw [nl] at z; cases z⟩ (.cons ((rv.mono e).mono ex.ext) (.cons ((ru.mono e).mono ex.ext) .nil))⟩
  · simp only [List.length_map, List.length_zip, r.length, r'.length]
    omega
end
section
variable {md : Rm} {en : En} {Wx : L2.WX} {X : Cx} {tg e e2 : Expr} {m m2 : ME} {pos p : Pos}
def tI (K : PySem.W.Frag) (md : Rm) (Wx : L2.WX) (f : Dn.Env → Res (List PyData)) : TI := fun σ H R => ∃ G ρ, RS G K md σ ρ H ∧ Want (ExO G K md Wx) (f ρ) fun ds ρ' => ∀ J H', Fr σ ρ H H' → Sub ρ ρ' → RS G K md σ ρ' H' → ItOk K J H' ds → R J H'
def ID (md : Rm) (en : En) (Wx : L2.WX) (X : Cx) (tg e : Expr) (m : MI) : Prop := PI X tg e (tI X.K md Wx (evalI md.l en m))
theorem PI.imp {tg e : Expr} {t t' : TI} (h : PI X tg e t) (g : ∀ σ H R, t' σ H R → t σ H R) : PI X tg e t' :=
  ⟨fun pins s σ H R I w => h.run pins s σ H R I (g σ H R w)⟩
theorem id_ex (h : PD md en Wx X e m) : ID md en Wx X tg e (.ex m) := by
  refine ⟨fun pins s σ H R I w => ?_⟩
  obtain ⟨G, ρ, Rs, w⟩ := w
  have w : Want _ (((evalE md.l en m ρ).bind settle).bind fun d ρ => ofO (itemsD d) ρ) _ := w
  cases z : (evalE md.l en m ρ).bind settle with
  | exc x ρ1 =>
    rw [z] at w
    exact (pi_list (PE.toV h)).run pins s σ H R I ⟨G, ρ, Rs, by show Want _ ((evalE md.l en m ρ).bind settle) _; rw [z]; exact w⟩
  | stuck => rw [z] at w; exact False.elim w
  | ok d ρ1 =>
    rw [z] at w
    obtain ⟨ds, e1, w⟩ := Want.ofO w
    have tv : ∀ Q : VK, (∀ v H', Fr σ ρ H H' → Sub ρ ρ1 → RS G X.K md σ ρ1 H' → Rep X.K H' v d → Q v H') → tV X.K md Wx (fun ρ => (evalE md.l en m ρ).bind settle) σ H Q := fun Q q => ⟨G, ρ, Rs, by show Want _ ((evalE md.l en m ρ).bind settle) _; rw [z]; exact q⟩
    cases d with
    | list l =>
      cases e1
      refine (pi_list (PE.toV h)).run pins s σ H R I (tv _ fun v H' fr sb R' rep => ?_)
      cases rep with
      | lst f r => exact ⟨_, rfl, ⟨_, f.sq⟩, w _ H' fr sb R' (it_list f r)⟩
    | tuple l =>
      cases e1
      refine (pi_tup (PE.toV h)).run pins s σ H R I (tv _ fun v H' fr sb R' rep => ?_)
      cases rep with
      | tup f r => exact ⟨_, rfl, ⟨_, f.1⟩, w _ H' fr sb R' (it_tup f.1 r)⟩
    | str x =>
      cases e1
      refine (pi_str (PE.toV h)).run pins s σ H R I (tv _ fun v H' fr sb R' rep => ?_)
      cases rep
      exact ⟨x, rfl, w _ H' fr sb R' (it_str x)⟩
    | dict kvs =>
      have e1 : (if isIns kvs = true then none else some (kvs.map (·.1))) = some _ := e1
      by_cases nI' : isIns kvs = true
      · rw [if_pos nI'] at e1
        cases e1
      have nI : isIns kvs = false := Bool.eq_false_iff.mpr nI'
      rw [if_neg nI'] at e1
      cases e1
      refine (pi_keys (PE.toV h)).run pins s σ H R I (tv _ fun v H' fr sb R' rep => ?_)
      obtain ⟨a, o, ps, rfl, f, r⟩ := rep.dict nI
      exact ⟨_, _, rfl, .inl ⟨_, f, w _ H' fr sb R' (it_keys f r)⟩⟩
    | _ => cases e1
theorem small_of {lo hi : Int} {ds : List PyData} (h : rangeD lo hi = some ds) : (-(2 ^ 62) ≤ lo ∧ lo < 2 ^ 62 ∧ -(2 ^ 62) ≤ hi ∧ hi < 2 ^ 62) ∧ ds = (List.range (hi - lo).toNat).map fun (j : Nat) => PyData.int (lo + (j : Int)) := by
  unfold rangeD at h
  split at h
  · rename_i c
    cases h
    have c1 := of_decide_eq_true c.1
    have c2 := of_decide_eq_true c.2
    exact ⟨⟨c1.1, c1.2, c2.1, c2.2⟩, rfl⟩
  · cases h
theorem id_range1 (hg : Gl X "range") (hm : X.mg "range" = none) (h : PD md en Wx X e m) (hs : starEach [e] X.env = [(false, eval e X.env)] := by rfl) : ID md en Wx X tg (.Call (.Name "range" p) [e] [] pos) (.range1 m) := by
  refine PI.imp (pi_range1 hg hm (pa_cons (PE.toV h) pa_nil (by rw [hs]; rfl)) hs) fun σ H R ⟨G, ρ, Rs, w⟩ => ⟨G, ρ, Rs, w.bind.mono fun d ρ1 w v H1 fr1 sb1 R1 rep1 => ?_⟩
  cases d with
  | int i =>
    cases rep1
    obtain ⟨ds, e1, w⟩ := Want.ofO w
    obtain ⟨c, rfl⟩ := small_of e1
    refine ⟨i, rfl, c.2.2.1, c.2.2.2, ?_⟩
    have w := w (Itr 0 i.toNat) H1 fr1 sb1 R1 (by rw [Int.sub_zero]; exact it_range 0 i.toNat)
    exact w
  | _ => exact False.elim w
theorem it_rangeC (lo c : Int) (n : Nat) {K : PySem.W.Frag} {H : Hp} : ItOk K (Itc lo c n) H ((List.range n).map fun (j : Nat) => .int (lo + (j : Int) * c)) := by
  refine ⟨fun i d H1 e hd => ?_, fun H1 e => by show n ≤ _; simp⟩
  rw [List.getElem?_map] at hd
  obtain ⟨c', hc, rfl⟩ := Option.map_eq_some_iff.mp hd
  obtain ⟨h1, h2⟩ := List.getElem?_eq_some_iff.mp hc
  rw [List.getElem_range] at h2
  subst h2
  refine ⟨show i < n by simpa using h1, fun x H' y => ?_⟩
  obtain ⟨rfl, rfl⟩ := y
  exact ⟨Ex.refl _, .int _⟩
theorem id_range3 {e3 : Expr} {m3 : ME} (hg : Gl X "range") (hm : X.mg "range" = none) (h : PD md en Wx X e m) (h2 : PD md en Wx X e2 m2) (h3 : PD md en Wx X e3 m3) (hs : starEach [e, e2, e3] X.env = (false, eval e X.env) :: starEach [e2, e3] X.env := by rfl) (hpl : (backTo pos (starEach [e2, e3] X.env)).any (·.1) = false := by rfl)
    (hs2 : starEach [e2, e3] X.env = (false, eval e2 X.env) :: starEach [e3] X.env := by rfl) (hs3 : starEach [e3] X.env = (false, eval e3 X.env) :: starEach [] X.env := by rfl) :
    ID md en Wx X tg (.Call (.Name "range" p) [e, e2, e3] [] pos) (.range3 m m2 m3) := by
  refine PI.imp (pi_range3 hg hm (pa_cons (PE.toV h) (pa_cons (PE.toV h2) (pa_cons (PE.toV h3) pa_nil hs3) hs2) hs) hs hpl) fun σ H R ⟨G, ρ, Rs, w⟩ => ⟨G, ρ, Rs, w.bind.mono fun d ρ1 w v H1 fr1 sb1 R1 rep1 => ⟨G, ρ1, R1, w.bind.mono fun d2 ρ2 w v2 H2 fr2 sb2 R2 rep2 => ⟨G, ρ2, R2, w.bind.mono fun d3 ρ3 w v3 H3 fr3 sb3 R3 rep3 => ?_⟩⟩⟩
  cases d with
  | int i =>
    cases rep1
    cases d2 with
    | int j =>
      cases rep2
      cases d3 with
      | int c =>
        cases rep3
        obtain ⟨ds, e1, w⟩ := Want.ofO w
        unfold rangeD3 at e1
        split at e1
        · rename_i q
          cases e1
          obtain ⟨⟨q1, q2, q3⟩, q4⟩ := q
          exact ⟨i, j, c, (Builtin.Range.rangeSize i j c).toNat, rfl, ⟨q1, q2, q3, by omega⟩, w (Itc i c _) H3 ((fr1.trans sb1 fr2).trans (sb1.trans sb2) fr3) ((sb1.trans sb2).trans sb3) R3 (it_rangeC i c _)⟩
        · cases e1
      | _ => exact False.elim w
    | _ => exact False.elim w
  | _ => exact False.elim w
theorem id_range2 (hg : Gl X "range") (hm : X.mg "range" = none) (h : PD md en Wx X e m) (h2 : PD md en Wx X e2 m2) (hs : starEach [e, e2] X.env = [(false, eval e X.env), (false, eval e2 X.env)] := by rfl) (hs2 : starEach [e2] X.env = [(false, eval e2 X.env)] := by rfl) :
    ID md en Wx X tg (.Call (.Name "range" p) [e, e2] [] pos) (.range2 m m2) := by
  refine PI.imp (pi_range2 hg hm (pa_cons (PE.toV h) (pa_cons (PE.toV h2) pa_nil (by rw [hs2]; rfl)) (by rw [hs, hs2])) hs hs2) fun σ H R ⟨G, ρ, Rs, w⟩ => ⟨G, ρ, Rs, w.bind.mono fun d ρ1 w v H1 fr1 sb1 R1 rep1 => ⟨G, ρ1, R1, w.bind.mono fun d2 ρ2 w v2 H2 fr2 sb2 R2 rep2 => ?_⟩⟩
  cases d with
  | int i =>
    cases rep1
    cases d2 with
    | int j =>
      cases rep2
      obtain ⟨ds, e1, w⟩ := Want.ofO w
      obtain ⟨c, rfl⟩ := small_of e1
      exact ⟨i, j, rfl, ⟨c.1, c.2.1, c.2.2.1, c.2.2.2⟩, w (Itr i (j - i).toNat) H2 (fr1.trans sb1 fr2) (sb1.trans sb2) R2 (it_range i _)⟩
    | _ => exact False.elim w
  | _ => exact False.elim w
theorem id_vals {apos cpos : Pos} (h : PD md en Wx X e m) (hbase : attributeBase e "values" X.env (eval e X.env) = eval e X.env := by rfl) (hline : (apos.endLine == cpos.line) = true := by rfl) : ID md en Wx X tg (.Call (.Attribute e "values" apos) [] [] cpos) (.vals m) := by
  refine PI.imp (pi_values (PE.toV h) hbase hline) fun σ H R ⟨G, ρ, Rs, w⟩ => ⟨G, ρ, Rs, w.bind.mono fun d ρ1 w v H1 fr1 sb1 R1 rep1 => ?_⟩
  obtain ⟨kvs, e, w'⟩ := Want.on w
  clear w
  obtain ⟨rfl, nI⟩ := dictOf_inv e
  have w := w'
  obtain ⟨a, o, ps, rfl, f, r⟩ := rep1.dict nI
  exact ⟨_, _, _, rfl, f, (show ∀ J H', Fr σ ρ H H' → Sub ρ ρ1 → RS G X.K md σ ρ1 H' → ItOk X.K J H' _ → R J H' from w) _ H1 fr1 sb1 R1 (it_vals f r)⟩
theorem id_items {tpos apos cpos : Pos} {elts : List Expr} {kk : Nat} (h : PD md en Wx X e m) (hbase : attributeBase e "items" X.env (eval e X.env) = eval e X.env := by rfl) (hline : (apos.endLine == cpos.line) = true := by rfl) : ID md en Wx X (.Tuple elts kk tpos) (.Call (.Attribute e "items" apos) [] [] cpos) (.items m) := by
  refine PI.imp (pi_items (PE.toV h) hbase hline) fun σ H R ⟨G, ρ, Rs, w⟩ => ⟨G, ρ, Rs, w.bind.mono fun d ρ1 w v H1 fr1 sb1 R1 rep1 => ?_⟩
  obtain ⟨kvs, e, w'⟩ := Want.on w
  clear w
  obtain ⟨rfl, nI⟩ := dictOf_inv e
  have w := w'
  obtain ⟨a, o, ps, rfl, f, r⟩ := rep1.dict nI
  exact ⟨_, _, _, rfl, f, (show ∀ J H', Fr σ ρ H H' → Sub ρ ρ1 → RS G X.K md σ ρ1 H' → ItOk X.K J H' _ → R J H' from w) _ H1 fr1 sb1 R1 (it_items f r)⟩
theorem id_zip {tpos : Pos} {elts : List Expr} {kk : Nat} (hg : Gl X "zip") (hm : X.mg "zip" = none) (h : PD md en Wx X e m) (h2 : PD md en Wx X e2 m2) (hs : starEach [e, e2] X.env = (false, eval e X.env) :: starEach [e2] X.env := by rfl) (hpl : (backTo pos (starEach [e2] X.env)).any (·.1) = false := by rfl)
    (hs2 : starEach [e2] X.env = (false, eval e2 X.env) :: starEach [] X.env := by rfl) :
    ID md en Wx X (.Tuple elts kk tpos) (.Call (.Name "zip" p) [e, e2] [] pos) (.zip m m2) := by
  refine PI.imp (pi_zip hg hm (pa_cons (PE.toV h) (pa_cons (PE.toV h2) pa_nil hs2) hs) hs hpl) fun σ H R ⟨G, ρ, Rs, w⟩ => ⟨G, ρ, Rs, w.bind.mono fun d ρ1 w v H1 fr1 sb1 R1 rep1 => ⟨G, ρ1, R1, w.bind.mono fun d2 ρ2 w v2 H2 fr2 sb2 R2 rep2 => ?_⟩⟩
  cases d with
  | list l =>
    have rep1 := rep1.mono (R1.ext fr2)
    cases rep1 with
    | lst f r =>
      cases d2 with
      | list l2 =>
        have w := (show Want (ExO G X.K md Wx) (if ((l.zip l2).all fun (d, d') => !isLib [d, d']) = true then Res.ok ((l.zip l2).map fun (d, d') => PyData.tuple [d, d']) ρ2 else .stuck) _ from w)
        by_cases hz : ((l.zip l2).all fun (d, d') => !isLib [d, d']) = true
        case neg =>
          rw [if_neg hz] at w
          exact False.elim w
        rw [if_pos hz] at w
        cases rep2 with
        | lst f2 r2 => exact ⟨_, _, _, _, rfl, f.sq, f2.sq, (show ∀ J H', Fr σ ρ H H' → Sub ρ ρ2 → RS G X.K md σ ρ2 H' → ItOk X.K J H' _ → R J H' from w) _ H2 (fr1.trans sb1 fr2) (sb1.trans sb2) R2 (it_zip f r f2 r2 hz)⟩
      | _ => exact False.elim w
  | _ => exact False.elim w
end

/-! ### slots set -/
theorem free_ne {md : Rm} {i : Nat} (h : free md.l i = true) : md.l[i]? ≠ some true := fun z => by
  unfold free at h
  rw [z] at h
  cases h
section
variable {G : Gh} {K : PySem.W.Frag} {md : Rm} {σ : St} {ρ : Env} {H : Hp} {i : Nat} {v : V} {d : PyData}
/-- a slot is given a new content: what is left to show -/
theorem RS.put (R : RS G K md σ ρ H) (hf : free md.l i = true) {s : Slot} (hv : ∀ d, s = .val d → Rep K H v d) (ho : ∀ d, s = .own d → RepO K H v d ∧ (∀ b, v = .ref b → ¬ Owned σ ρ b ∧ G.H0 b = none)) (hx : isOth s = true → Oth K md H v s) : RS G K md (σ.set i (some v)) (ρ.set i s) H := by
  by_cases hi : i < ρ.length
  · have hσ : i < σ.length := by rw [R.len]; exact hi
    have at_i : ∀ {j : Nat} {t : Slot}, (ρ.set i s)[j]? = some t → (j = i ∧ t = s ∧ (σ.set i (some v))[j]? = some (some v)) ∨ (j ≠ i ∧ ρ[j]? = some t ∧ (σ.set i (some v))[j]? = σ[j]?) := fun {j t} h => by
      by_cases z : i = j
      · subst z
        rw [List.getElem?_set_self hi] at h
        cases h
        exact .inl ⟨rfl, rfl, List.getElem?_set_self hσ⟩
      · rw [List.getElem?_set_ne z] at h
        exact .inr ⟨fun q => z q.symm, h, List.getElem?_set_ne z⟩
    refine ⟨by rw [List.length_set, List.length_set]; exact R.len, fun j d h => ?_, fun j d h => ?_, fun j k b d e h1 h2 h3 h4 => ?_, fun j b d h1 h2 => ?_, R.thr, R.keep, fun j u h1 h2 => ?_, fun j t h z => ?_, R.gl, R.anc⟩
    · rcases at_i h with ⟨rfl, e, q⟩ | ⟨_, q1, q2⟩
      · exact ⟨v, q, hv d e.symm⟩
      · rw [q2]; exact R.val j d q1
    · rcases at_i h with ⟨rfl, e, q⟩ | ⟨_, q1, q2⟩
      · exact ⟨v, q, (ho d e.symm).1⟩
      · rw [q2]; exact R.own j d q1
    · rcases at_i h1 with ⟨rfl, e1, q1⟩ | ⟨n1, p1, q1⟩
      · rcases at_i h2 with ⟨rfl, e2, q2⟩ | ⟨n2, p2, q2⟩
        · rfl
        · rw [q1] at h3; cases h3
          rw [q2] at h4
          exact absurd ⟨k, e, p2, h4⟩ ((ho d e1.symm).2 b rfl).1
      · rcases at_i h2 with ⟨rfl, e2, q2⟩ | ⟨n2, p2, q2⟩
        · rw [q2] at h4; cases h4
          rw [q1] at h3
          exact absurd ⟨j, d, p1, h3⟩ ((ho e e2.symm).2 b rfl).1
        · rw [q1] at h3; rw [q2] at h4
          exact R.dis j k b d e p1 p2 h3 h4
    · rcases at_i h1 with ⟨rfl, e1, q1⟩ | ⟨n1, p1, q1⟩
      · rw [q1] at h2; cases h2
        exact .inr ((ho d e1.symm).2 b rfl).2
      · rw [q1] at h2
        exact R.adr j b d p1 h2
    · have z : i ≠ j := fun q => free_ne hf (by rw [q]; exact h1)
      rw [List.getElem?_set_ne z]
      exact R.fix j u h1 h2
    · rcases at_i h with ⟨rfl, e, q⟩ | ⟨_, q1, q2⟩
      · subst e
        exact ⟨v, q, hx z⟩
      · rw [q2]; exact R.oth j t q1 z
  · rw [List.set_eq_of_length_le (by rw [R.len]; omega), List.set_eq_of_length_le (by omega)]
    exact R
theorem RS.putVal (R : RS G K md σ ρ H) (hf : free md.l i = true) (h : Rep K H v d) : RS G K md (σ.set i (some v)) (ρ.set i (.val d)) H :=
  R.put hf (fun d' e => by cases e; exact h) (fun d' e => by cases e) fun z => by cases z
end
end Dn
/-! Den9: targets, comprehensions -/
namespace Dn
open PySem PySem.Spec PyProof.Rows L2

/-! ### targets -/
def Tg.ix : Tg → List Nat
  | .n i => [i]
  | .t is => is
def Off (ix : List Nat) (σ σ' : St) : Prop := σ'.length = σ.length ∧ ∀ j, j ∉ ix → σ'[j]? = σ[j]?
def setsV : List Nat → List V → St → St
  | i :: is, v :: vs, σ => setsV is vs (σ.set i (some v))
  | _, _, σ => σ
theorem setsV_off : ∀ {is : List Nat} {vs : List V} {σ : St}, Off is σ (setsV is vs σ)
  | [], vs, σ => ⟨by cases vs <;> rfl, fun j _ => by cases vs <;> rfl⟩
  | i :: is, [], σ => ⟨rfl, fun _ _ => rfl⟩
  | i :: is, v :: vs, σ => by
    obtain ⟨h1, h2⟩ := setsV_off (is := is) (vs := vs) (σ := σ.set i (some v))
    refine ⟨by rw [setsV, h1, List.length_set], fun j hj => ?_⟩
    rw [setsV, h2 j (fun z => hj (List.mem_cons_of_mem _ z)), List.getElem?_set_ne (fun z => hj (by rw [z]; exact List.mem_cons_self))]
theorem setAll_ok {G : Gh} {K : PySem.W.Frag} {md : Rm} {H : Hp} : ∀ {is : List Nat} {vs : List V} {ds : List PyData} {σ : St} {ρ ρ' : Env}, RS G K md σ ρ H → (∀ i ∈ is, free md.l i = true) → Reps K H vs ds → setAll is ds ρ = some ρ' →
    vs.length = is.length ∧ RS G K md (setsV is vs σ) ρ' H ∧ ∀ (j : Nat) d, ρ'[j]? = some (.own d) → j ∉ is ∧ ρ[j]? = some (.own d)
  | [], _, _, σ, ρ, ρ', R, hf, .nil, e => by
    cases e
    exact ⟨rfl, R, fun j d h => ⟨by simp, h⟩⟩
  | [], _, _, σ, ρ, ρ', R, hf, .cons r rs, e => by cases e
  | i :: is, _, _, σ, ρ, ρ', R, hf, .nil, e => by cases e
  | i :: is, v :: vs, d :: ds, σ, ρ, ρ', R, hf, .cons r rs, e => by
    obtain ⟨h1, h2, h3⟩ := setAll_ok (R.putVal (hf i List.mem_cons_self) r) (fun j hj => hf j (List.mem_cons_of_mem _ hj)) rs (show setAll is ds (ρ.set i (.val d)) = some ρ' from e)
    refine ⟨by rw [List.length_cons, List.length_cons, h1], h2, fun j d' h => ?_⟩
    obtain ⟨q1, q2⟩ := h3 j d' h
    by_cases z : i = j
    · subst z
      by_cases hl : i < ρ.length
      · rw [List.getElem?_set_self hl] at q2; cases q2
      · rw [List.getElem?_eq_none (by rw [List.length_set]; omega)] at q2; cases q2
    · rw [List.getElem?_set_ne z] at q2
      exact ⟨fun q => by
        rcases List.mem_cons.mp q with q | q
        · exact z q.symm
        · exact q1 q, q2⟩
def tGt (K : PySem.W.Frag) (md : Rm) (mt : Tg) : TG := fun v σ H Q => ∃ G ρ d ρ', RS G K md σ ρ H ∧ Rep K H v d ∧ assignT md.l mt d ρ = some ρ' ∧
  ∀ σ', RS G K md σ' ρ' H → Off mt.ix σ σ' → (∀ (j : Nat) e, ρ'[j]? = some (.own e) → j ∉ mt.ix ∧ ρ[j]? = some (.own e)) → Q σ' H
def GD (md : Rm) (X : Cx) (tg : Expr) (mt : Tg) : Prop := PG X tg (tGt X.K md mt)
theorem PG.imp {X : Cx} {tg : Expr} {t t' : TG} (h : PG X tg t) (g : ∀ v σ H Q, t' v σ H Q → t v σ H Q) : PG X tg t' :=
  ⟨fun pins s σ H v u Q I r w => h.run pins s σ H v u Q I r (g v σ H Q w)⟩
section
variable {md : Rm} {X : Cx} {pos : Pos} {es : List Expr}
theorem gd_n (i : Nat) {x : Str} (hN : X.N.Nodup) (hi : X.N[i]? = some x) (hx : Loc X.env.scope x) (hf : X.fn x = true ∨ X.env.scope.names.lookup x = some .local) : GD md X (.Name x pos) (.n i) := by
  refine PG.imp (pg_name hN hi hx hf) fun v σ H Q ⟨G, ρ, d, ρ', R, r, e, q⟩ => ?_
  by_cases hf : free md.l i = true
  · have e : some (ρ.set i (.val d)) = some ρ' := by rw [← e]; exact (if_pos hf).symm
    cases e
    refine q _ (R.putVal hf r) (setsV_off (is := [i]) (vs := [v])) fun j e h => ?_
    by_cases z : i = j
    · subst z
      by_cases hl : i < ρ.length
      · rw [List.getElem?_set_self hl] at h; cases h
      · rw [List.getElem?_eq_none (by rw [List.length_set]; omega)] at h; cases h
    · rw [List.getElem?_set_ne z] at h
      exact ⟨fun q => z (Eq.symm (by simpa [Tg.ix] using q)), h⟩
  · have e : none = some ρ' := by rw [← e]; exact (if_neg hf).symm
    cases e
/-- names, one after another -/
def NGs (X : Cx) (es : List Expr) (is : List Nat) : Prop := PGs X es fun vs σ H Q => vs.length = is.length ∧ Q (setsV is vs σ) H
theorem PGs.imp {es : List Expr} {t t' : TGs} (h : PGs X es t) (g : ∀ v σ H Q, t' v σ H Q → t v σ H Q) : PGs X es t' :=
  ⟨fun pins s σ H v u Q I r w => h.run pins s σ H v u Q I r (g v σ H Q w)⟩
theorem ngs_nil : NGs X [] [] := PGs.imp pgs_nil fun vs σ H Q ⟨h, q⟩ => by
  cases vs with
  | nil => exact ⟨rfl, q⟩
  | cons v vs => simp at h
theorem ngs_cons {x : Str} (i : Nat) {is : List Nat} (hN : X.N.Nodup) (hi : X.N[i]? = some x) (hx : Loc X.env.scope x) (hf : X.fn x = true ∨ X.env.scope.names.lookup x = some .local) (h : NGs X es is)
    (hs : (assignEach (.Name x pos :: es) X.env).map (·.2) = assign (.Name x pos) X.env :: (assignEach es X.env).map (·.2) := by rfl) : NGs X (.Name x pos :: es) (i :: is) :=
  PGs.imp (pgs_cons (pg_name hN hi hx hf) h hs) fun vs σ H Q ⟨h, q⟩ => by
    cases vs with
    | nil => simp at h
    | cons v vs => exact ⟨v, vs, rfl, by simpa using h, q⟩
theorem gd_t {k n : Nat} {is : List Nat} (hc : X.calm = true) (h : NGs X es is) (hl : is.length = n) (hn : (assignEach es X.env).length = n := by rfl) (hst : (assignEach es X.env).findIdx? (·.1) = none := by rfl) : GD md X (.Tuple es k pos) (.t is) := by
  refine ⟨fun pins s σ H v u Q I r w => ?_⟩
  obtain ⟨G, ρ, d, ρ', R, rep, e, q⟩ := w
  by_cases hf : is.all (free md.l) = true
  · have hf' : ∀ i ∈ is, free md.l i = true := List.all_eq_true.mp hf
    cases d with
    | tuple ds =>
      have e : setAll is ds ρ = some ρ' := by rw [← e]; exact (if_pos hf).symm
      cases rep with
      | tup f rs =>
        obtain ⟨h1, h2, h3⟩ := setAll_ok R hf' rs e
        exact (pg_tup hc h hn hst).run pins s σ H _ u Q I r ⟨_, _, rfl, f.1, h1.trans hl, h1, q _ h2 setsV_off h3⟩
    | list ds =>
      have e : setAll is ds ρ = some ρ' := by rw [← e]; exact (if_pos hf).symm
      cases rep with
      | lst f rs =>
        obtain ⟨h1, h2, h3⟩ := setAll_ok R hf' rs e
        exact (pg_lst hc h hn hst).run pins s σ H _ u Q I r ⟨_, _, rfl, f.sq, h1.trans hl, h1, q _ h2 setsV_off h3⟩
    | _ =>
      have e : none = some ρ' := by rw [← e]; exact (if_pos hf).symm
      cases e
  · have e : none = some ρ' := by rw [← e]; exact (if_neg hf).symm
    cases e
end

theorem setAll_off : ∀ {is : List Nat} {ds : List PyData} {ρ ρ' : Env}, setAll is ds ρ = some ρ' → ρ'.length = ρ.length ∧ ∀ j, j ∉ is → ρ'[j]? = ρ[j]?
  | [], [], ρ, ρ', e => by cases e; exact ⟨rfl, fun _ _ => rfl⟩
  | [], d :: ds, ρ, ρ', e => by cases e
  | i :: is, [], ρ, ρ', e => by cases e
  | i :: is, d :: ds, ρ, ρ', e => by
    obtain ⟨h1, h2⟩ := setAll_off (show setAll is ds (ρ.set i (.val d)) = some ρ' from e)
    refine ⟨by rw [h1, List.length_set], fun j hj => ?_⟩
    rw [h2 j fun z => hj (List.mem_cons_of_mem _ z), List.getElem?_set_ne fun z => hj (by rw [z]; exact List.mem_cons_self)]
theorem assignT_off {md : Rm} {mt : Tg} {d : PyData} {ρ ρ' : Env} (e : assignT md.l mt d ρ = some ρ') : ρ'.length = ρ.length ∧ ∀ j, j ∉ mt.ix → ρ'[j]? = ρ[j]? := by
  cases mt with
  | n i =>
    by_cases hf : free md.l i = true
    · have e : some (ρ.set i (.val d)) = some ρ' := by rw [← e]; exact (if_pos hf).symm
      cases e
      exact ⟨List.length_set, fun j hj => List.getElem?_set_ne fun z => hj (by rw [z]; exact List.mem_cons_self)⟩
    · have e : none = some ρ' := by rw [← e]; exact (if_neg hf).symm
      cases e
  | t is =>
    by_cases hf : is.all (free md.l) = true
    · cases d with
      | tuple ds => exact setAll_off (ds := ds) (by rw [← e]; exact (if_pos hf).symm)
      | list ds => exact setAll_off (ds := ds) (by rw [← e]; exact (if_pos hf).symm)
      | _ =>
        have e : none = some ρ' := by rw [← e]; exact (if_pos hf).symm
        cases e
    · have e : none = some ρ' := by rw [← e]; exact (if_neg hf).symm
      cases e
/-! ### slots forgotten and given back -/
theorem wipe_in {σ : St} {j : Nat} : ∀ {ws : List Nat}, j ∈ ws → (wipe σ ws)[j]? = if j < σ.length then some none else none
  | w :: ws, h => by
    unfold wipe
    by_cases z : w = j
    · subst z
      by_cases hl : w < σ.length
      · rw [List.getElem?_set_self (by rw [wipe_length]; exact hl), if_pos hl]
      · rw [List.getElem?_eq_none (by rw [List.length_set, wipe_length]; omega), if_neg hl]
    · rw [List.getElem?_set_ne z]
      rcases List.mem_cons.mp h with q | q
      · exact absurd q.symm z
      · exact wipe_in q
theorem wipeS_length (ρ : Env) : ∀ ws : List Nat, (wipeS ws ρ).length = ρ.length
  | [] => rfl
  | w :: ws => by rw [wipeS, List.length_set, wipeS_length ρ ws]
theorem wipeS_in {ρ : Env} {j : Nat} : ∀ {ws : List Nat}, j ∈ ws → (wipeS ws ρ)[j]? = if j < ρ.length then some .un else none
  | w :: ws, h => by
    unfold wipeS
    by_cases z : w = j
    · subst z
      by_cases hl : w < ρ.length
      · rw [List.getElem?_set_self (by rw [wipeS_length]; exact hl), if_pos hl]
      · rw [List.getElem?_eq_none (by rw [List.length_set, wipeS_length]; omega), if_neg hl]
    · rw [List.getElem?_set_ne z]
      rcases List.mem_cons.mp h with q | q
      · exact absurd q.symm z
      · exact wipeS_in q
theorem wipeS_out {ρ : Env} {j : Nat} : ∀ {ws : List Nat}, j ∉ ws → (wipeS ws ρ)[j]? = ρ[j]?
  | [], _ => rfl
  | w :: ws, h => by
    rw [wipeS, List.getElem?_set_ne (fun z => h (by rw [z]; exact List.mem_cons_self)), wipeS_out fun z => h (List.mem_cons_of_mem _ z)]
theorem restore_length (ρ ρ' : Env) : ∀ ws : List Nat, (restore ws ρ ρ').length = ρ'.length
  | [] => rfl
  | w :: ws => by rw [restore, List.length_set, restore_length ρ ρ' ws]
theorem restore_in {ρ ρ' : Env} {j : Nat} : ∀ {ws : List Nat}, j ∈ ws → (restore ws ρ ρ')[j]? = if j < ρ'.length then some ((ρ[j]?).getD .un) else none
  | w :: ws, h => by
    unfold restore
    by_cases z : w = j
    · subst z
      by_cases hl : w < ρ'.length
      · rw [List.getElem?_set_self (by rw [restore_length]; exact hl), if_pos hl]
      · rw [List.getElem?_eq_none (by rw [List.length_set, restore_length]; omega), if_neg hl]
    · rw [List.getElem?_set_ne z]
      rcases List.mem_cons.mp h with q | q
      · exact absurd q.symm z
      · exact restore_in q
theorem restore_out {ρ ρ' : Env} {j : Nat} : ∀ {ws : List Nat}, j ∉ ws → (restore ws ρ ρ')[j]? = ρ'[j]?
  | [], _ => rfl
  | w :: ws, h => by
    rw [restore, List.getElem?_set_ne (fun z => h (by rw [z]; exact List.mem_cons_self)), restore_out fun z => h (List.mem_cons_of_mem _ z)]
theorem wipe_off {σ σ' : St} {ix ws : List Nat} (h : Off ix σ σ') (hs : ∀ j ∈ ix, j ∈ ws) : wipe σ' ws = wipe σ ws := by
  apply List.ext_getElem?
  intro j
  by_cases z : j ∈ ws
  · rw [wipe_in z, wipe_in z, h.1]
  · rw [wipe_out z, wipe_out z, h.2 j fun q => z (hs j q)]
theorem wipe_wipe (σ : St) (ws : List Nat) : wipe (wipe σ ws) ws = wipe σ ws := by
  apply List.ext_getElem?
  intro j
  by_cases z : j ∈ ws
  · rw [wipe_in z, wipe_in z, wipe_length]
  · rw [wipe_out z]
section
variable {G : Gh} {K : PySem.W.Frag} {md : Rm} {σ : St} {ρ ρ1 ρx : Env} {H H1 Hx : Hp} {ws : List Nat}
theorem wipeS_own {j : Nat} {d : PyData} (h : (wipeS ws ρ)[j]? = some (.own d)) : j ∉ ws ∧ ρ[j]? = some (.own d) := by
  by_cases z : j ∈ ws
  · rw [wipeS_in z] at h; split at h <;> cases h
  · rw [wipeS_out z] at h; exact ⟨z, h⟩
theorem wipeS_val {j : Nat} {d : PyData} (h : (wipeS ws ρ)[j]? = some (.val d)) : j ∉ ws ∧ ρ[j]? = some (.val d) := by
  by_cases z : j ∈ ws
  · rw [wipeS_in z] at h; split at h <;> cases h
  · rw [wipeS_out z] at h; exact ⟨z, h⟩
theorem RS.wipe (R : RS G K md σ ρ H) (hf : ∀ j ∈ ws, free md.l j = true) : RS G K md (L2.wipe σ ws) (wipeS ws ρ) H := by
  refine ⟨by rw [wipe_length, wipeS_length]; exact R.len, fun j d h => ?_, fun j d h => ?_, fun j k b d e h1 h2 h3 h4 => ?_, fun j b d h1 h2 => ?_, R.thr, R.keep, fun j v h1 h2 => ?_, fun j t h z => ?_, R.gl, R.anc⟩
  · obtain ⟨n, h⟩ := wipeS_val h
    rw [wipe_out n]; exact R.val j d h
  · obtain ⟨n, h⟩ := wipeS_own h
    rw [wipe_out n]; exact R.own j d h
  · obtain ⟨n1, h1⟩ := wipeS_own h1
    obtain ⟨n2, h2⟩ := wipeS_own h2
    rw [wipe_out n1] at h3
    rw [wipe_out n2] at h4
    exact R.dis j k b d e h1 h2 h3 h4
  · obtain ⟨n1, h1⟩ := wipeS_own h1
    rw [wipe_out n1] at h2
    exact R.adr j b d h1 h2
  · rw [wipe_out fun z => free_ne (hf j z) h1]
    exact R.fix j v h1 h2
  · by_cases n : j ∈ ws
    · rw [wipeS_in n] at h
      split at h
      · cases h; cases z
      · cases h
    · rw [wipeS_out n] at h
      rw [wipe_out n]; exact R.oth j t h z
theorem owned_wipe {b : Addr} (h : Owned (wipe σ ws) (wipeS ws ρ) b) : Owned σ ρ b := by
  obtain ⟨j, d, h1, h2⟩ := h
  obtain ⟨n, h1⟩ := wipeS_own h1
  rw [wipe_out n] at h2
  exact ⟨j, d, h1, h2⟩
/-- an object that no slot holds and that was not there at the start may change its list -/
theorem RS.other (R : RS G K md σ ρ H) {D : Addr} {xs ys : List V} (ho : ¬ Owned σ ρ D) (h0 : G.H0 D = none) (hD : H D = some (.lst xs)) : RS G K md σ ρ (upd H D (.lst ys)) := by
  have x : Ext H (upd H D (.lst ys)) := ⟨fun b zs h => by rw [upd_ne (ne_of h hD (by simp))]; exact h, fun b o u h => by rw [upd_ne (ne_of h hD (by simp))]; exact h, fun b u h => by rw [upd_ne (ne_of h hD (by simp))]; exact h, fun b C x u h => by rw [upd_ne (ne_of h hD (by simp))]; exact h⟩
  refine ⟨R.len, fun i d h => ?_, fun i d h => ?_, R.dis, R.adr, fun b h => ?_, fun b u h n t => ?_, R.fix, fun i s h z => ?_, R.gl.upd hD (.inl ⟨_, rfl⟩), fun Ha q => (R.anc Ha q).trans x⟩
  · obtain ⟨v, h1, h2⟩ := R.val i d h
    exact ⟨v, h1, h2.mono x⟩
  · obtain ⟨v, h1, a, u1, rfl, h4, r⟩ := R.own i d h
    exact ⟨_, h1, a, u1, rfl, by rw [upd_ne (fun z => ho ⟨i, d, h, by rw [h1, z]⟩)]; exact h4, r.mono x⟩
  · by_cases z : b = D
    · rw [z]; exact h0
    · rw [upd_ne z] at h; exact R.thr b h
  · have z : b ≠ D := fun z => by rw [z, h0] at h; cases h
    rw [upd_ne z]; exact R.keep b u h n t
  · obtain ⟨v, h1, h2⟩ := R.oth i s h z
    exact ⟨v, h1, h2.mono x⟩
/-- behind a comprehension -/
theorem after_comp (R : RS G K md σ ρ1 H1) (hf : ∀ j ∈ ws, free md.l j = true) (Rx : RS G K md (wipe σ ws) ρx Hx) (sb : Sub (wipeS ws ρ1) ρx) (kp : ∀ b u, H1 b = some u → ¬ Owned (wipe σ ws) (wipeS ws ρ1) b → (∀ ps, u ≠ .tbl ps) → Hx b = some u) (th : ∀ b, Hx b = none → H1 b = none) :
    Fr σ ρ1 H1 Hx ∧ Sub ρ1 (restore ws ρ1 ρx) ∧ RS G K md σ (restore ws ρ1 ρx) Hx := by
  have fr : Fr σ ρ1 H1 Hx := ⟨fun b u h n t => kp b u h (fun q => n (owned_wipe q)) t, th⟩
  have x := R.ext fr
  have hlen : ρx.length = ρ1.length := by rw [← sb.1, wipeS_length]
  have sub : Sub ρ1 (restore ws ρ1 ρx) := ⟨by rw [restore_length]; exact hlen.symm, fun j s h => by
    by_cases z : j ∈ ws
    · rw [restore_in z] at h
      split at h
      · rename_i hl
        cases h
        have hl : j < ρ1.length := by omega
        exact ⟨_, List.getElem?_eq_getElem hl, by rw [List.getElem?_eq_getElem hl]; exact .refl _⟩
      · cases h
    · rw [restore_out z] at h
      obtain ⟨t, h1, h2⟩ := sb.2 j s h
      rw [wipeS_out z] at h1
      exact ⟨t, h1, h2⟩⟩
  -- an own slot of the restored ones
  have inw : ∀ {j : Nat} {s : Slot}, j ∈ ws → (restore ws ρ1 ρx)[j]? = some s → s ≠ .un → ρ1[j]? = some s := fun {j s} z h hn => by
    rw [restore_in z] at h
    split at h
    · cases q : ρ1[j]? with
      | none => rw [q] at h; cases h; exact absurd rfl hn
      | some t => rw [q] at h; cases h; rfl
    · cases h
  refine ⟨fr, sub, ⟨by rw [restore_length, hlen]; exact R.len, fun j d h => ?_, fun j d h => ?_, fun j k b d e h1 h2 => ?_, fun j b d h1 => ?_, Rx.thr, Rx.keep, R.fix, fun j s h y => ?_, Rx.gl, Rx.anc⟩⟩
  · by_cases z : j ∈ ws
    · obtain ⟨v, q1, q2⟩ := R.val j d (inw z h (by simp))
      exact ⟨v, q1, q2.mono x⟩
    · rw [restore_out z] at h
      have q := Rx.val j d h
      rw [wipe_out z] at q
      exact q
  · by_cases z : j ∈ ws
    · have h1 := inw z h (by simp)
      obtain ⟨v, q1, a, u1, rfl, q4, q5⟩ := R.own j d h1
      refine ⟨_, q1, a, u1, rfl, kp a _ q4 (fun q => ?_) q5.lk.nt, q5.mono x⟩
      obtain ⟨k, e, p1, p2⟩ := q
      obtain ⟨n, p1⟩ := wipeS_own p1
      rw [wipe_out n] at p2
      have := R.dis j k a d e h1 p1 q1 p2
      subst this
      exact n z
    · rw [restore_out z] at h
      have q := Rx.own j d h
      rw [wipe_out z] at q
      exact q
  · obtain ⟨_, p⟩ := sub.own h1
    obtain ⟨_, q⟩ := sub.own h2
    exact R.dis j k b _ _ p q
  · obtain ⟨_, p⟩ := sub.own h1
    exact R.adr j b _ p
  · by_cases z : j ∈ ws
    · obtain ⟨v, q1, q2⟩ := R.oth j s (inw z h (fun e => by subst e; cases y)) y
      exact ⟨v, q1, q2.mono x⟩
    · rw [restore_out z] at h
      have q := Rx.oth j s h y
      rw [wipe_out z] at q
      exact q
end
end Dn
/-! Den10: comprehensions -/
namespace Dn
open PySem PySem.Spec PyProof.Rows L2

def CD (md : Rm) (en : En) (Wx : L2.WX) (X : Cx) (cs : List Expr) (ms : List ME) : Prop := PTs X cs (tTr X.K md Wx (evalCs md.l en ms))
section
variable {md : Rm} {en : En} {Wx : L2.WX} {X : Cx} {c : Expr} {mc : ME}
theorem PTs.imp {cs : List Expr} {t t' : TT} (h : PTs X cs t) (g : ∀ σ H Q, t' σ H Q → t σ H Q) : PTs X cs t' :=
  ⟨fun pins s σ H Q I w => h.run pins s σ H Q I (g σ H Q w)⟩
theorem cd_nil : CD md en Wx X [] [] := PTs.imp pts_nil fun σ H Q ⟨G, ρ, R, w⟩ => w H Fr.refl (Sub.refl ρ) R
theorem cd_one (h : TD md en Wx X c mc) : CD md en Wx X [c] [mc] := by
  refine PTs.imp (pts_one h) fun σ H Q ⟨G, ρ, R, w⟩ => ⟨G, ρ, R, ?_⟩
  show Want _ ((evalE md.l en mc ρ).bind _) _
  have w : Want _ ((evalE md.l en mc ρ).bind _) _ := w
  cases e : evalE md.l en mc ρ with
  | exc x ρ => rw [e] at w; exact w
  | stuck => rw [e] at w; exact False.elim w
  | ok x ρ1 =>
    rw [e] at w
    obtain ⟨k, e2, w⟩ := Want.on (show Want _ (on ((deref ρ1 (toR x)).bind truthy) fun k => if k = true then evalCs md.l en [] ρ1 else Res.ok false ρ1) _ from w)
    show Want _ (on ((deref ρ1 (toR x)).bind truthy) _) _
    rw [e2]
    cases k with
    | true => exact w
    | false => exact w
end
/-- nothing is raised -/
abbrev W0 : L2.WX := fun _ _ _ _ => False
theorem takes0 {X : Cx} : L2.Takes X W0 := fun _ _ x => by
  obtain ⟨_, _, _, _, _, _, _, _, _, _, _, _, _, _, _, _, z⟩ := x
  exact z.elim
section
variable {md : Rm} {en : En} {Wx : L2.WX} {X : Cx}
/-- the turns of a comprehension -/
theorem comp_red {ws : List Nat} {mt : Tg} {mi : MI} {mcs : List ME} {melt : ME} (hsub : ∀ j ∈ mt.ix, j ∈ ws) {σ : L2.St} {H : Hp} {Q : VK} (w : tE X.K md Wx (evalE md.l en (.lc ws mt mi mcs melt)) σ H Q) :
    tLc (tI X.K md Wx (evalI md.l en mi)) (tGt X.K md mt) (tTr X.K md W0 (evalCs md.l en mcs)) (tV X.K md W0 fun ρ => (evalE md.l en melt ρ).bind settle) ws σ H Q := by
  obtain ⟨G, ρ, R, w⟩ := w
  refine ⟨G, ρ, R, w.bind.mono fun ds ρ1 w J H1 fr1 sb1 R1 it D hD => ?_⟩
  by_cases hf : ws.all (free md.l) = true
  case neg => rw [if_neg hf] at w; exact False.elim w
  rw [if_pos hf] at w
  have hf' : ∀ j ∈ ws, free md.l j = true := List.all_eq_true.mp hf
  have w := w.bind.nox (Ex' := ExO G X.K md W0)
  have Rw : RS G X.K md (wipe σ ws) (wipeS ws ρ1) H1 := R1.wipe hf'
  have D0 : G.H0 D = none := R1.thr D hD
  have nD : ∀ {ρx : Dn.Env} {σ' : St}, Sub (wipeS ws ρ1) ρx → σ' = wipe σ ws → ¬ Owned σ' ρx D := fun {ρx σ'} sb e q => by
    subst e
    exact Rw.fresh hD (sb.owned q)
  generalize hP : (fun (a : List PyData) (ρ' : Dn.Env) => Want (ExO G X.K md Wx) (Res.ok (EV.fr (.list a)) (restore ws ρ1 ρ')) fun x ρ' => ∀ (v : V) (H' : Hp), Dn.Fr σ ρ H H' → Sub ρ ρ' → RS G X.K md σ ρ' H' → RepEV X.K σ H H' v x → Q v H') = P at w
  have hend : ∀ l ρx, P l ρx → ∀ v H', Dn.Fr σ ρ H H' → Sub ρ (restore ws ρ1 ρx) → RS G X.K md σ (restore ws ρ1 ρx) H' → RepEV X.K σ H H' v (.fr (.list l)) → Q v H' := fun l ρx p => by
    rw [← hP] at p; exact p
  clear hP
  refine ⟨fun i m Hx => ∃ ρx acc accV, i + m = ds.length ∧ RS G X.K md (wipe σ ws) ρx Hx ∧ Sub (wipeS ws ρ1) ρx ∧ Hx D = some (.lst accV) ∧ Reps X.K Hx accV acc ∧
      (∀ b u, H1 b = some u → ¬ Owned (wipe σ ws) (wipeS ws ρ1) b → (∀ ps, u ≠ .tbl ps) → Hx b = some u) ∧ (∀ b, Hx b = none → H1 b = none) ∧
      Want (ExO G X.K md W0) (compL (fun d ρ => on (assignT md.l mt d ρ) fun ρ => evalCs md.l en mcs ρ) (fun ρ => (evalE md.l en melt ρ).bind settle) (wipeS ws) (ds.drop i) acc ρx) P,
    ⟨ds.length, wipeS ws ρ1, [], [], by omega, Rw.grow (Ex.new hD), Sub.refl _, upd_same, .nil, fun b u h _ _ => Ex.new hD b u h, fun b h => ?_, w⟩, ?_⟩
  · by_cases z : b = D
    · rw [z]; exact hD
    · rw [upd_ne z] at h; exact h
  rintro i m Hx ⟨ρx, acc, accV, him, Rx, sbx, hxD, rx, kp, th, w⟩
  have x1 : Ext H1 Hx := (Rw.ext (H' := Hx) ⟨kp, th⟩)
  by_cases hi : i < ds.length
  · -- a turn
    have hd : ds[i]? = some ds[i] := List.getElem?_eq_getElem hi
    obtain ⟨go, yl⟩ := it.1 i _ Hx x1 hd
    rw [List.drop_eq_getElem_cons hi] at w
    have w : Want _ ((on (assignT md.l mt ds[i] ρx) fun ρ => evalCs md.l en mcs ρ).bind _) P := w
    have w := w.bind
    obtain ⟨ρ2, ea, w⟩ := Want.on w
    refine .inr ⟨go, fun H' => ∃ m', m' < m ∧ ∃ ρx acc accV, i + 1 + m' = ds.length ∧ RS G X.K md (wipe σ ws) ρx H' ∧ Sub (wipeS ws ρ1) ρx ∧ H' D = some (.lst accV) ∧ Reps X.K H' accV acc ∧
      (∀ b u, H1 b = some u → ¬ Owned (wipe σ ws) (wipeS ws ρ1) b → (∀ ps, u ≠ .tbl ps) → H' b = some u) ∧ (∀ b, H' b = none → H1 b = none) ∧
      Want (ExO G X.K md W0) (compL (fun d ρ => on (assignT md.l mt d ρ) fun ρ => evalCs md.l en mcs ρ) (fun ρ => (evalE md.l en melt ρ).bind settle) (wipeS ws) (ds.drop (i + 1)) acc ρx) P, fun H' ⟨m', a, b⟩ => ⟨m', a, b⟩, fun v H2 y => ?_⟩
    obtain ⟨ex, rv⟩ := yl v H2 y
    refine ⟨G, ρx, ds[i], ρ2, Rx.grow ex, rv, ea, fun σ2 R2 off own => ⟨?_, ?_⟩⟩
    · rw [wipe_off off hsub, wipe_wipe]
    have eσ : wipe σ2 ws = wipe σ ws := by rw [wipe_off off hsub, wipe_wipe]
    -- who is owned in the turn is owned ahead of it
    have ow : ∀ {b : Addr}, Owned σ2 ρ2 b → Owned (wipe σ ws) (wipeS ws ρ1) b := fun {b} ⟨j, d, h1, h2⟩ => by
      obtain ⟨n, h3⟩ := own j d h1
      rw [off.2 j n] at h2
      exact sbx.owned ⟨j, d, h3, h2⟩
    have nD2 : ¬ Owned σ2 ρ2 D := fun q => Rw.fresh hD (ow q)
    -- the new state behind the turn
    obtain ⟨al1, al2⟩ := assignT_off ea
    have subw : ∀ {ρ' : Dn.Env}, Sub ρ2 ρ' → Sub (wipeS ws ρ1) (wipeS ws ρ') := fun {ρ'} s => by
      have hl' : ρ'.length = ρ1.length := by rw [← s.1, al1, ← sbx.1, wipeS_length]
      refine ⟨by rw [wipeS_length, wipeS_length, hl'], fun j t h => ?_⟩
      by_cases z : j ∈ ws
      · rw [wipeS_in z] at h
        rw [wipeS_in z, ← hl']
        split at h
        · cases h; rename_i c; exact ⟨.un, if_pos c, .refl _⟩
        · cases h
      · rw [wipeS_out z] at h ⊢
        obtain ⟨t2, h1, h2⟩ := s.2 j t h
        rw [al2 j fun q => z (hsub j q)] at h1
        obtain ⟨t4, h5, h6⟩ := sbx.2 j t2 h1
        rw [wipeS_out z] at h5
        exact ⟨t4, h5, h6.trans h2⟩
    have kp2 : ∀ b u, H1 b = some u → ¬ Owned (wipe σ ws) (wipeS ws ρ1) b → (∀ ps, u ≠ .tbl ps) → H2 b = some u := fun b u h n t => ex b u (kp b u h n t)
    have th2 : ∀ b, H2 b = none → H1 b = none := fun b h => th b (by
      cases q : Hx b with
      | none => rfl
      | some u => rw [ex b u q] at h; cases h)
    have hD2 : H2 D = some (.lst accV) := ex D _ hxD
    have r2 : Reps X.K H2 accV acc := rx.mono ex.ext
    -- the tests
    refine ⟨G, ρ2, R2, w.mono fun k ρ3 w H3 fr3 sb3 R3 => ?_⟩
    have hD3 : H3 D = some (.lst accV) := fr3.1 D _ hD2 nD2 (fun _ z => nomatch z)
    have r3 : Reps X.K H3 accV acc := r2.mono (R2.ext fr3)
    cases k with
    | false =>
      refine iteF ?_
      have w : Want _ (compL _ _ (wipeS ws) (ds.drop (i + 1)) acc (wipeS ws ρ3)) P := w
      refine ⟨m - 1, by omega, wipeS ws ρ3, acc, accV, by omega, ?_, subw sb3, hD3, r3, fun b u h n t => fr3.1 b u (kp2 b u h n t) (fun q => n (ow q)) t, fun b h => th2 b (fr3.2 b h), w⟩
      rw [← eσ]; exact R3.wipe hf'
    | true =>
      refine iteT ?_
      have w : Want _ ((((evalE md.l en melt ρ3).bind settle)).bind fun y ρ => if acc.length < szl then compL _ _ (wipeS ws) (ds.drop (i + 1)) (acc ++ [y]) (wipeS ws ρ) else .stuck) P := w
      refine ⟨G, ρ3, R3, w.bind.mono fun y ρ4 w u H4 fr4 sb4 R4 rep4 => ?_⟩
      have nD3 : ¬ Owned σ2 ρ3 D := fun q => nD2 (sb3.owned q)
      have hD4 : H4 D = some (.lst accV) := fr4.1 D _ hD3 nD3 (fun _ z => nomatch z)
      have r4 : Reps X.K H4 accV acc := r3.mono (R3.ext fr4)
      by_cases hz : acc.length < szl
      case neg => rw [if_neg hz] at w; exact False.elim w
      rw [if_pos hz] at w
      have nD4 : ¬ Owned (wipe σ2 ws) (wipeS ws ρ4) D := fun q => nD3 (sb4.owned (owned_wipe q))
      have x5 : Ext H4 (upd H4 D (.lst (accV ++ [u]))) := ⟨fun b zs h => by rw [upd_ne (ne_of h hD4 (by simp))]; exact h, fun b o u h => by rw [upd_ne (ne_of h hD4 (by simp))]; exact h, fun b u h => by rw [upd_ne (ne_of h hD4 (by simp))]; exact h, fun b C x u h => by rw [upd_ne (ne_of h hD4 (by simp))]; exact h⟩
      refine ⟨accV, hD4, by rw [r4.length, ← szl_eq]; exact hz, m - 1, by omega, wipeS ws ρ4, acc ++ [y], accV ++ [u], by omega, ?_, subw (sb3.trans sb4), upd_same, (r4.append (.cons rep4 .nil)).mono x5, fun b t h n y => ?_, fun b h => ?_, w⟩
      · rw [← eσ]; exact (R4.wipe hf').other nD4 D0 hD4
      · have ne : b ≠ D := fun z => by rw [z, hD] at h; cases h
        rw [upd_ne ne]
        exact fr4.1 b t (fr3.1 b t (kp2 b t h n y) (fun q => n (ow q)) y) (fun q => n (ow (sb3.owned q))) y
      · by_cases z : b = D
        · rw [z]; exact hD
        · rw [upd_ne z] at h
          exact th2 b (fr3.2 b (fr4.2 b h))
  · -- the end
    have e : i = ds.length := by omega
    subst e
    rw [List.drop_length] at w
    refine .inl ⟨it.2 Hx x1, ?_⟩
    obtain ⟨fr2, sb2, R2⟩ := after_comp R1 hf' Rx sbx kp th
    exact hend acc ρx w _ Hx (fr1.trans sb1 fr2) (sb1.trans sb2) R2 ⟨D, rfl, fr1.2 D hD, D, _, rfl, hxD, Cn.list rx⟩
variable {ws : List Nat} {mt : Tg} {mi : MI} {mcs : List ME} {melt : ME} {elt tg iter : Expr} {ifs : List Expr} {scope : Scope} {own : List (Str × Nat)} {pos : Pos}
/-- [elt for target in iter if ..] -/
theorem pd_lc (hsub : ∀ j ∈ mt.ix, j ∈ own.map (·.2)) (hc : X.calm = true) (hN : X.N.Nodup) (ok : BlkOk X.N X.env.scope scope own) (hi : ID md en Wx X tg iter mi)
    (hg : ∀ (s : Shared) (H : Hp) (C : Addr) (cl : List (Str × Addr)) (fp : List Addr), GD md (X.blk s H scope (compEnvC scope cl C X.env) fp) tg mt)
    (ht : ∀ (s : Shared) (H : Hp) (C : Addr) (cl : List (Str × Addr)) (fp : List Addr), CD md en W0 (X.blk s H scope (compEnvC scope cl C X.env) fp) ifs mcs)
    (he : ∀ (s : Shared) (H : Hp) (C : Addr) (cl : List (Str × Addr)) (fp : List Addr), PD md en W0 (X.blk s H scope (compEnvC scope cl C X.env) fp) elt melt) (hs : ∀ x, foldedSetIterable iter X.env x = pure x := by intro _; rfl) :
    PD md en Wx X (.ListComp elt [⟨tg, iter, ifs, 0⟩] scope pos) (.lc (own.map (·.2)) mt mi mcs melt) :=
  PE.imp (pe_lc (g := tGt X.K md mt) (tt := tTr X.K md W0 (evalCs md.l en mcs)) (te := tV X.K md W0 fun ρ => (evalE md.l en melt ρ).bind settle) hc hN hi ok hg ht (fun s H C cl fp => PE.toV (he s H C cl fp)) hs) fun σ H Q w => comp_red hsub w
end
end Dn
/-! Den11: statements -/
namespace Dn
open PySem PySem.Spec PyProof.Rows L2

def RepRet (G : Gh) (K : PySem.W.Frag) (σ : St) (H : Hp) (v : V) : EV → Prop
  | .val d => Rep K H v d
  | .fr d => RepO K H v d ∧ ∃ a, v = .ref a ∧ G.H0 a = none
  | .al i => σ[i]? = some (some v)
def FlP (G : Gh) (K : PySem.W.Frag) (md : Rm) (H : Hp) (D : Ends) (fl : Fl) (ρ' : Env) : Prop := match fl with
  | .nx => ∀ σ' H', RS G K md σ' ρ' H' → Ext H H' → D.nx σ' H'
  | .brk => ∀ σ' H', RS G K md σ' ρ' H' → Ext H H' → D.bk σ' H'
  | .cnt => ∀ σ' H', RS G K md σ' ρ' H' → Ext H H' → D.ct σ' H'
  | .ret e => ∀ σ' v H', RS G K md σ' ρ' H' → RepRet G K σ' H' v e → D.rt v H'
theorem FlP.back {G : Gh} {K : PySem.W.Frag} {md : Rm} {H H1 : Hp} {D : Ends} {fl : Fl} {ρ' : Env} (x : Ext H H1) (p : FlP G K md H D fl ρ') : FlP G K md H1 D fl ρ' := by
  cases fl with
  | nx => exact fun σ' H' R e => p σ' H' R (x.trans e)
  | brk => exact fun σ' H' R e => p σ' H' R (x.trans e)
  | cnt => exact fun σ' H' R e => p σ' H' R (x.trans e)
  | ret e => exact p
def tSt (K : PySem.W.Frag) (md : Rm) (Wx : L2.WX) (f : Env → Res Fl) : TS := fun D σ H => ∃ G ρ, RS G K md σ ρ H ∧ Want (ExO G K md Wx) (f ρ) (FlP G K md H D)
section
variable (W : Nat) (md : Rm) (en : En) (Wx : L2.WX)
def SD (X : Cx) (e : Stmt) (m : MS) : Prop := PS X e (tSt X.K md Wx (execS W md.l en m))
def BD (X : Cx) (es : List Stmt) (ms : List MS) : Prop := PSs X es (tSt X.K md Wx (execSs W md.l en ms))
end
/-- raw, a slot's list locked -/
theorem PE.toS {X : Cx} {e : Expr} {md : Rm} {Wx : L2.WX} {f : Env → Res EV} (h : PE X e (tE X.K md Wx f)) : PE X e (tE X.K md Wx fun ρ => (f ρ).bind still) := by
  refine PE.lock h fun σ H Q w => ?_
  obtain ⟨G, ρ, R, w⟩ := w
  refine ⟨G, ρ, R, w.bind.mono fun x ρ' q v H' fr sb R' rep => ?_⟩
  cases x with
  | val d => exact .inl ((show Aft G X.K md σ ρ H Q (.val d) ρ' from q) v H' fr sb R' rep)
  | fr d => exact .inl ((show Aft G X.K md σ ρ H Q (.fr d) ρ' from q) v H' fr sb R' rep)
  | al i =>
    have rep : σ[i]? = some (some v) := rep
    have q : Want _ ((match ρ'[i]? with
      | some (.val d) => Res.ok d ρ'
      | some (.own d) => .ok d (ρ'.set i (.val d))
      | _ => .stuck).bind fun d ρ => Res.ok (EV.val d) ρ) (Aft G X.K md σ ρ H Q) := q
    cases z : ρ'[i]? with
    | none => rw [z] at q; exact False.elim q
    | some s =>
      rw [z] at q
      cases s with
      | un => exact False.elim q
      | exc x => exact False.elim q
      | clo => exact False.elim q
      | val d =>
        obtain ⟨v', h1, h2⟩ := R'.val i d z
        rw [rep] at h1; cases h1
        exact .inl (q v H' fr sb R' h2)
      | own d =>
        obtain ⟨a, xs, rfl, h4, lk, ow, L⟩ := lock_slot R' z rep
        exact .inr ⟨a, xs, h4, lk, fun o => q _ _ (fr.trans sb (L o).1) (sb.trans (Sub.set z (.lock _ _))) (L o).2.1 (L o).2.2⟩
section
variable {W : Nat} {md : Rm} {en : En} {Wx : L2.WX} {X : Cx} {e a b c : Expr} {s : Stmt} {ss ss2 : List Stmt} {m ma mb mc : ME} {ms : MS} {mss mss2 : List MS} {pos : Pos}
/-! ### blocks -/
theorem bd_nil : BD W md en Wx X [] [] := PSs.imp pss_nil fun D σ H ⟨G, ρ, R, w⟩ => w σ H R (Ext.refl H)
theorem bd_cons (h1 : SD W md en Wx X s ms) (h2 : BD W md en Wx X ss mss) : BD W md en Wx X (s :: ss) (ms :: mss) := by
  refine PSs.imp (pss_cons h1 h2) fun D σ H ⟨G, ρ, R, w⟩ => ⟨G, ρ, R, Want.mono (Want.bind (show Want _ ((execS W md.l en ms ρ).bind fun f ρ => match f with
    | .nx => execSs W md.l en mss ρ
    | f => .ok f ρ) (FlP G X.K md H D) from w)) fun fl ρ1 w => ?_⟩
  cases fl with
  | nx => exact fun σ' H' R' x => ⟨G, ρ1, R', Want.mono (r := execSs W md.l en mss ρ1) w fun fl ρ2 p => p.back x⟩
  | brk => exact w
  | cnt => exact w
  | ret e => exact w
theorem sd_pass : SD W md en Wx X (.Pass pos) .pass := PS.imp ps_pass fun D σ H ⟨G, ρ, R, w⟩ => w σ H R (Ext.refl H)
theorem sd_brk : SD W md en Wx X (.Break pos) .brk := PS.imp ps_break fun D σ H ⟨G, ρ, R, w⟩ => w σ H R (Ext.refl H)
theorem sd_cont : SD W md en Wx X (.Continue pos) .cont := PS.imp ps_continue fun D σ H ⟨G, ρ, R, w⟩ => w σ H R (Ext.refl H)
theorem sd_expr (h : PD md en Wx X e m) (hs : swapsWith e none pos.line X.env = pure false) : SD W md en Wx X (.Expr e pos) (.expr m) :=
  PS.imp (ps_expr h hs) fun D σ H ⟨G, ρ, R, w⟩ => ⟨G, ρ, R, Want.mono (Want.bind (show Want _ ((evalE md.l en m ρ).bind fun _ ρ => .ok .nx ρ) (FlP G X.K md H D) from w)) fun x ρ1 w v H1 fr sb R1 _ => w σ H1 R1 (R.ext fr)⟩
theorem sd_ret (h : PD md en Wx X e m) : SD W md en Wx X (.Return (some e) pos) (.ret m) := by
  refine PS.imp (ps_ret h) fun D σ H ⟨G, ρ, R, w⟩ => ⟨G, ρ, R, Want.mono (Want.bind (show Want _ ((evalE md.l en m ρ).bind fun x ρ => .ok (.ret x) ρ) (FlP G X.K md H D) from w)) fun x ρ1 w v H1 fr sb R1 rep => w σ v H1 R1 ?_⟩
  cases x with
  | val d => exact rep
  | fr d => obtain ⟨a, e1, hn, r⟩ := rep; exact ⟨r, a, e1, R.thr a hn⟩
  | al i => exact rep
theorem sd_ite (hc : TD md en Wx X c mc) (ha : BD W md en Wx X ss mss) (hb : BD W md en Wx X ss2 mss2) : SD W md en Wx X (.If c ss ss2 pos) (.ite mc mss mss2) := by
  refine PS.imp (ps_if hc ha hb) fun D σ H ⟨G, ρ, R, w⟩ => ⟨G, ρ, R, Want.mono (Want.bind (show Want _ ((evalT md.l en mc ρ).bind fun k ρ => if k = true then execSs W md.l en mss ρ else execSs W md.l en mss2 ρ) (FlP G X.K md H D) from w)) fun k ρ1 w H1 fr sb R1 => ?_⟩
  cases k with
  | true => exact iteT ⟨G, ρ1, R1, Want.mono (r := execSs W md.l en mss ρ1) w fun fl ρ2 p => p.back (R.ext fr)⟩
  | false => exact iteF ⟨G, ρ1, R1, Want.mono (r := execSs W md.l en mss2 ρ1) w fun fl ρ2 p => p.back (R.ext fr)⟩
/-! ### loops -/
theorem sd_while (hp : PassesOwn (model X.prog X.w) X.A X.env X.xe) (hc : TD md en Wx X c mc) (hb : BD W md en Wx X ss mss) : SD W md en Wx X (.While c ss [] pos) (.while mc mss) := by
  refine PS.imp (ps_while hp hc hb) fun D σ H ⟨G, ρ, R, w⟩ => ?_
  have w : Want _ (whileL (evalT md.l en mc) (execSs W md.l en mss) W ρ) (FlP G X.K md H D) := w
  refine ⟨fun m σ' H' => ∃ ρ, RS G X.K md σ' ρ H' ∧ Ext H H' ∧ Want (ExO G X.K md Wx) (whileL (evalT md.l en mc) (execSs W md.l en mss) m ρ) (FlP G X.K md H D), ⟨W, ρ, R, Ext.refl H, w⟩, ?_⟩
  rintro m σ1 H1 ⟨ρ1, R1, x1, w1⟩
  cases m with
  | zero => exact False.elim w1
  | succ m =>
    have w1 := Want.bind (show Want _ ((evalT md.l en mc ρ1).bind fun b ρ => if b = true then (execSs W md.l en mss ρ).bind fun f ρ => match f with
      | .nx => whileL (evalT md.l en mc) (execSs W md.l en mss) m ρ
      | .cnt => whileL (evalT md.l en mc) (execSs W md.l en mss) m ρ
      | .brk => .ok .nx ρ
      | .ret e => .ok (.ret e) ρ
      else .ok .nx ρ) (FlP G X.K md H D) from w1)
    refine ⟨G, ρ1, R1, w1.mono fun k ρ2 w2 H2 fr sb R2 => ?_⟩
    cases k with
    | false => exact iteF ((show FlP G X.K md H D .nx ρ2 from w2) σ1 H2 R2 (x1.trans (R1.ext fr)))
    | true =>
      refine iteT ⟨_, fun σ' H' n => ⟨m, Nat.lt_succ_self m, n⟩, G, ρ2, R2, Want.mono (Want.bind (r := execSs W md.l en mss ρ2) w2) fun fl ρ3 w3 => ?_⟩
      have x2 : Ext H H2 := x1.trans (R1.ext fr)
      cases fl with
      | nx => exact fun σ' H' R' x => ⟨ρ3, R', x2.trans x, w3⟩
      | cnt => exact fun σ' H' R' x => ⟨ρ3, R', x2.trans x, w3⟩
      | brk => exact fun σ' H' R' x => (show FlP G X.K md H D .nx ρ3 from w3) σ' H' R' (x2.trans x)
      | ret e => exact w3
theorem sd_for {tg : Expr} {mt : Tg} {mi : MI} (hp : PassesOwn (model X.prog X.w) X.A X.env X.xe) (hc : X.calm = true) (hi : ID md en Wx X tg e mi) (hg : GD md X tg mt) (hb : BD W md en Wx X ss mss) (hs : ∀ x, foldedSetIterable e X.env x = pure x := by intro _; rfl) :
    SD W md en Wx X (.For tg e ss [] pos) (.for mt mi mss) := by
  refine PS.imp (ps_for hp hc hi hg hb hs) fun D σ H ⟨G, ρ, R, w⟩ => ?_
  have w := Want.bind (show Want _ ((evalI md.l en mi ρ).bind fun ds ρ => forL (assignT md.l mt) (execSs W md.l en mss) ds ρ) (FlP G X.K md H D) from w)
  refine ⟨G, ρ, R, w.mono fun ds ρ1 w J H1 fr1 sb1 R1 it => ?_⟩
  have x0 : Ext H H1 := R.ext fr1
  refine ⟨fun i m σ' H' => ∃ ρ, i + m = ds.length ∧ RS G X.K md σ' ρ H' ∧ Ext H1 H' ∧ Want (ExO G X.K md Wx) (forL (assignT md.l mt) (execSs W md.l en mss) (ds.drop i) ρ) (FlP G X.K md H D), ⟨ds.length, ρ1, by omega, R1, Ext.refl H1, w⟩, ?_⟩
  rintro i m σ2 H2 ⟨ρ2, him, R2, x2, w2⟩
  by_cases hi : i < ds.length
  · have hd : ds[i]? = some ds[i] := List.getElem?_eq_getElem hi
    obtain ⟨go, yl⟩ := it.1 i _ H2 x2 hd
    rw [List.drop_eq_getElem_cons hi] at w2
    obtain ⟨ρ3, ea, w3⟩ := Want.on (show Want _ (on (assignT md.l mt ds[i] ρ2) fun ρ => (execSs W md.l en mss ρ).bind fun f ρ => match f with
      | .nx => forL (assignT md.l mt) (execSs W md.l en mss) (ds.drop (i + 1)) ρ
      | .cnt => forL (assignT md.l mt) (execSs W md.l en mss) (ds.drop (i + 1)) ρ
      | .brk => .ok .nx ρ
      | .ret e => .ok (.ret e) ρ) (FlP G X.K md H D) from w2)
    refine .inr ⟨go, _, fun σ' H' n => ⟨m - 1, by omega, n⟩, fun v H3 y => ?_⟩
    obtain ⟨ex, rv⟩ := yl v H3 y
    refine ⟨G, ρ2, ds[i], ρ3, R2.grow ex, rv, ea, fun σ3 R3 off own => ⟨G, ρ3, R3, Want.mono (Want.bind (r := execSs W md.l en mss ρ3) w3) fun fl ρ4 w4 => ?_⟩⟩
    have x3 : Ext H1 H3 := x2.trans ex.ext
    cases fl with
    | nx => exact fun σ' H' R' x => ⟨ρ4, by omega, R', x3.trans x, w4⟩
    | cnt => exact fun σ' H' R' x => ⟨ρ4, by omega, R', x3.trans x, w4⟩
    | brk => exact fun σ' H' R' x => (show FlP G X.K md H D .nx ρ4 from w4) σ' H' R' (x0.trans (x3.trans x))
    | ret e => exact w4
  · have e : i = ds.length := by omega
    subst e
    rw [List.drop_length] at w2
    exact .inl ⟨it.2 H2 x2, (show FlP G X.K md H D .nx ρ2 from w2) σ2 H2 R2 (x0.trans x2)⟩
end
end Dn
/-! Den12: stores, defs -/
namespace Dn
open PySem PySem.Spec PyProof.Rows L2

/-- what a slot alone holds changes -/
theorem upd_any {G : Gh} {K : PySem.W.Frag} {md : Rm} {σ : St} {ρ : Env} {H : Hp} {i : Nat} {ds es : PyData} {v : V} (R : RS G K md σ ρ H) (h : ρ[i]? = some (.own ds)) (hv : σ[i]? = some (some v)) :
    ∃ a xs, v = .ref a ∧ H a = some xs ∧ Cn K H xs ds ∧ ∀ ys, Cn K H ys es → Dn.Fr σ ρ H (upd H a ys) ∧ Sub ρ (ρ.set i (.own es)) ∧ RS G K md σ (ρ.set i (.own es)) (upd H a ys) := by
  obtain ⟨v', h1, a, xs, e1, h4, r⟩ := R.own i _ h
  rw [hv] at h1; cases h1
  subst e1
  have ow : Owned σ ρ a := ⟨i, _, h, hv⟩
  have hi : i < ρ.length := (List.getElem?_eq_some_iff.mp h).1
  have sub : Sub ρ (ρ.set i (.own es)) := Sub.set h (.own _ _)
  refine ⟨a, xs, rfl, h4, r, fun ys rys => ?_⟩
  have fr : Dn.Fr σ ρ H (upd H a ys) := ⟨fun b u e n _ => by
    rw [upd_ne (fun q => n (by rw [q]; exact ow))]; exact e, fun b e => by
    by_cases z : b = a
    · subst z; rw [upd_same] at e; cases e
    · rw [upd_ne z] at e; exact e⟩
  have x := R.ext fr
  refine ⟨fr, sub, ⟨by rw [List.length_set]; exact R.len, fun j e q => ?_, fun j e q => ?_, fun j k b e f p q => ?_, fun j b e p q => ?_, fun b q => R.thr b (fr.2 b q), fun b u q n t => ?_, R.fix, fun j s q z => ?_, R.gl.upd h4 r.lk, fun Ha q => (R.anc Ha q).trans x⟩⟩
  · by_cases hj : i = j
    · subst hj
      rw [List.getElem?_set_self hi] at q
      cases q
    · rw [List.getElem?_set_ne hj] at q
      obtain ⟨w, q1, q2⟩ := R.val j e q
      exact ⟨w, q1, q2.mono x⟩
  · by_cases hj : i = j
    · subst hj
      rw [List.getElem?_set_self hi] at q
      cases q
      exact ⟨_, hv, a, ys, rfl, upd_same, rys.mono x⟩
    · rw [List.getElem?_set_ne hj] at q
      obtain ⟨w, q1, b, u1, f1, q4, q5⟩ := R.own j e q
      subst f1
      have ne : b ≠ a := fun z => hj (R.dis i j a _ _ h q hv (by rw [q1, z]))
      exact ⟨_, q1, b, u1, rfl, by rw [upd_ne ne]; exact q4, q5.mono x⟩
  · obtain ⟨_, p'⟩ := sub.own p
    obtain ⟨_, q'⟩ := sub.own q
    exact R.dis j k b _ _ p' q'
  · obtain ⟨_, p'⟩ := sub.own p
    exact R.adr j b _ p' q
  · have q' := R.keep b u q n t
    by_cases z : b = a
    · subst z
      rcases R.adr' ow with y | y
      · exact absurd y n
      · rw [q] at y; cases y
    · rw [upd_ne z]; exact q'
  · by_cases hj : i = j
    · subst hj
      rw [List.getElem?_set_self hi] at q
      cases q
      cases z
    · rw [List.getElem?_set_ne hj] at q
      obtain ⟨w, q1, q2⟩ := R.oth j s q z
      exact ⟨w, q1, q2.mono x⟩
theorem RepEV.step {G : Gh} {K : PySem.W.Frag} {md : Rm} {σ : St} {ρ : Env} {H0 H H' : Hp} {v : V} {x : EV} (R : RS G K md σ ρ H) (hf : ∀ b, H0 b = none → Owned σ ρ b → False) (f : Dn.Fr σ ρ H H') (h : RepEV K σ H0 H v x) : RepEV K σ H0 H' v x := by
  cases x with
  | val d => exact Rep.mono (R.ext f) h
  | fr d =>
    obtain ⟨a, e, n, b, u1, e1, h4, r⟩ := h
    subst e
    cases e1
    exact ⟨a, rfl, n, a, u1, rfl, f.1 a _ h4 (hf a n) r.lk.nt, r.mono (R.ext f)⟩
  | al i => exact h
theorem upd_own {G : Gh} {K : PySem.W.Frag} {md : Rm} {σ : St} {ρ : Env} {H : Hp} {i : Nat} {ds es : List PyData} {v : V} (R : RS G K md σ ρ H) (h : ρ[i]? = some (.own (.list ds))) (hv : σ[i]? = some (some v)) :
    ∃ a xs, v = .ref a ∧ H a = some (.lst xs) ∧ Reps K H xs ds ∧ ∀ ys, Reps K H ys es → Dn.Fr σ ρ H (upd H a (.lst ys)) ∧ Sub ρ (ρ.set i (.own (.list es))) ∧ RS G K md σ (ρ.set i (.own (.list es))) (upd H a (.lst ys)) := by
  obtain ⟨a, u, rfl, h4, c, U⟩ := upd_any (es := .list es) R h hv
  obtain ⟨xs, rfl, r⟩ := c.inv
  exact ⟨a, xs, rfl, h4, r, fun ys rys => U (.lst ys) rys⟩
/-- a raw value into a slot -/
theorem put_ok {G : Gh} {K : PySem.W.Frag} {md : Rm} {σ : St} {ρ ρ' : Env} {H0 H : Hp} {i : Nat} {v : V} {x : EV} {u : Unit} (R : RS G K md σ ρ H) (hf : free md.l i = true) (hw : ∀ b, H0 b = none → Owned σ ρ b → False) (h0 : ∀ b, H0 b = none → G.H0 b = none) (h : RepEV K σ H0 H v x) (e : putS i x ρ = .ok u ρ') :
    RS G K md (σ.set i (some v)) ρ' H := by
  cases x with
  | val d => cases e; exact R.putVal hf h
  | fr d =>
    cases e
    obtain ⟨a, e1, n, r⟩ := h
    refine R.put hf (fun d' e => by cases e) (fun d' e => ?_) fun z => by cases z
    cases e
    exact ⟨r, fun b e => by rw [e1] at e; cases e; exact ⟨fun q => hw a n q, h0 a n⟩⟩
  | al j => cases e
theorem putS_exc {i : Nat} {x : EV} {ρ ρ' : Env} {y : Exc} : putS i x ρ ≠ .exc y ρ' := fun h => by cases x <;> cases h
section
variable {W : Nat} {md : Rm} {en : En} {Wx : L2.WX} {X : Cx} {e a b c k : Expr} {m ma mb mk : ME} {pos p1 p2 p3 : Pos} {x y : Str}
theorem set_red {i : Nat} {f : Dn.Env → Res EV} {D : Ends} {σ : L2.St} {H : Hp} (w : ∃ G ρ, RS G X.K md σ ρ H ∧ Want (ExO G X.K md Wx) (if free md.l i = true then ((f ρ).bind still).bind fun x ρ => (putS i x ρ).bind fun _ ρ => .ok .nx ρ else .stuck) (FlP G X.K md H D)) :
    tAsg (tE X.K md Wx fun ρ => (f ρ).bind still) (gName i) D σ H := by
  obtain ⟨G, ρ, R, w⟩ := w
  by_cases hf : free md.l i = true
  case neg => rw [if_neg hf] at w; exact False.elim w
  rw [if_pos hf] at w
  refine ⟨G, ρ, R, w.bind.mono fun x ρ1 w v H1 fr sb R1 rep => ?_⟩
  have hw : ∀ b, H b = none → Owned σ ρ1 b → False := fun b n q => R.fresh n (sb.owned q)
  cases z : putS i x ρ1 with
  | exc x ρ => exact absurd z putS_exc
  | stuck => rw [z] at w; exact False.elim w
  | ok u ρ2 =>
    rw [z] at w
    exact (show FlP G X.K md H D .nx ρ2 from w) _ H1 (put_ok R1 hf hw R.thr rep z) (R.ext fr)
/-- name = value -/
theorem sd_set (i : Nat) (hN : X.N.Nodup) (hi : X.N[i]? = some x) (hx : Loc X.env.scope x) (he : PD md en Wx X e m) (hs : swapsWith e (some (.Name x p1)) pos.line X.env = pure false) (hf : X.fn x = true ∨ X.env.scope.names.lookup x = some .local) :
    SD W md en Wx X (.Assign [.Name x p1] e pos) (.set i m) :=
  PS.imp (ps_set hN hi hx (PE.toS he) hs hf) fun D σ H w => set_red w
/-- name = [.. for ..] on one line -/
theorem sd_setLc {i : Nat} {ws : List Nat} {mt : Tg} {mi : MI} {mcs : List ME} {melt : ME} {elt tg iter : Expr} {ifs : List Expr} {scope : Scope} {own : List (Str × Nat)} (hws : own.map (·.2) = ws) (hsub : ∀ j ∈ mt.ix, j ∈ ws) (hc : X.calm = true) (hN : X.N.Nodup) (hy : X.N[i]? = some y) (hyl : X.env.scope.names.lookup y = some .local)
    (hsw : swapsWith (.ListComp elt [⟨tg, iter, ifs, 0⟩] scope pos) (some (.Name y p1)) p2.line X.env = pure true) (ok : BlkOk X.N X.env.scope scope own) (hi : ID md en Wx X tg iter mi)
    (hg : ∀ (s : Shared) (H : Hp) (C : Addr) (cl : List (Str × Addr)) (fp : List Addr), GD md (X.blk s H scope (compEnvC scope cl C X.env) fp) tg mt)
    (ht : ∀ (s : Shared) (H : Hp) (C : Addr) (cl : List (Str × Addr)) (fp : List Addr), CD md en W0 (X.blk s H scope (compEnvC scope cl C X.env) fp) ifs mcs)
    (he : ∀ (s : Shared) (H : Hp) (C : Addr) (cl : List (Str × Addr)) (fp : List Addr), PD md en W0 (X.blk s H scope (compEnvC scope cl C X.env) fp) elt melt) (hs : ∀ x, foldedSetIterable iter X.env x = pure x := by intro _; rfl) :
    SD W md en Wx X (.Assign [.Name y p1] (.ListComp elt [⟨tg, iter, ifs, 0⟩] scope pos) p2) (.set i (.lc ws mt mi mcs melt)) := by
  subst hws
  refine PS.imp (ps_setLc (g := tGt X.K md mt) (tt := tTr X.K md W0 (evalCs md.l en mcs)) (te := tV X.K md W0 fun ρ => (evalE md.l en melt ρ).bind settle) hc hN hy hyl hsw hi ok hg ht (fun s H C cl fp => PE.toV (he s H C cl fp)) hs) fun D σ H w => ?_
  -- a comprehension hands back a new list: nothing waits
  have red := set_red (X := X) (md := md) (i := i) (f := evalE md.l en (.lc (own.map fun (x : Str × Nat) => x.2) mt mi mcs melt)) (D := D) (σ := σ) (H := H) w
  refine comp_red hsub ?_
  obtain ⟨G, ρ, R, w⟩ := red
  refine ⟨G, ρ, R, ?_⟩
  have w : Want _ ((evalE md.l en (.lc (own.map (·.2)) mt mi mcs melt) ρ).bind still) _ := w
  cases z : evalE md.l en (.lc (own.map (·.2)) mt mi mcs melt) ρ with
  | exc x ρ1 => rw [z] at w; exact w
  | stuck => rw [z] at w; exact False.elim w
  | ok x ρ1 =>
    rw [z] at w
    obtain ⟨ds, ρ2, _, z⟩ := bind_inv z
    by_cases hf : (own.map (·.2)).all (free md.l) = true
    case neg => rw [if_neg hf] at z; cases z
    rw [if_pos hf] at z
    obtain ⟨l, ρ3, _, z⟩ := bind_inv z
    cases z
    exact w
/-- a, b = value -/
theorem sd_unpack {is : List Nat} {es : List Expr} {kk : Nat} (he : PD md en Wx X e m) (hg : GD md X (.Tuple es kk p1) (.t is)) (hs : swapsWithSole [.Tuple es kk p1] e pos.line X.env = pure false) (hw : swappedStores [.Tuple es kk p1] e X.env = pure none)
    (h1 : (assignEach [.Tuple es kk p1] X.env).map (·.2) = [assign (.Tuple es kk p1) X.env] := by rfl) : SD W md en Wx X (.Assign [.Tuple es kk p1] e pos) (.unpack is m) := by
  refine PS.imp (ps_asg (PE.toV he) hg hs hw h1) fun D σ H ⟨G, ρ, R, w⟩ => ⟨G, ρ, R, Want.mono (Want.bind (show Want _ (((evalE md.l en m ρ).bind settle).bind fun d ρ => on (assignT md.l (.t is) d ρ) fun ρ => .ok .nx ρ) (FlP G X.K md H D) from w)) fun d ρ1 w v H1 fr sb R1 rep => ?_⟩
  obtain ⟨ρ2, ea, w⟩ := Want.on w
  exact ⟨G, ρ1, d, ρ2, R1, rep, ea, fun σ' R' _ _ => (show FlP G X.K md H D .nx ρ2 from w) σ' H1 R' (R.ext fr)⟩
theorem tE.mono {K : PySem.W.Frag} {f : Dn.Env → Res EV} {σ : L2.St} {H : Hp} {Q Q' : VK} (h : tE K md Wx f σ H Q) (g : ∀ v H', Q v H' → Q' v H') : tE K md Wx f σ H Q' := by
  obtain ⟨G, ρ, R, w⟩ := h
  exact ⟨G, ρ, R, w.mono fun x ρ' q v H' a b c d => g _ _ (q v H' a b c d)⟩
/-- two values, then two names -/
theorem par_red {i j : Nat} {D : Ends} {σ : L2.St} {H : Hp} (w : tSt X.K md Wx (execS W md.l en (.par i j ma mb)) D σ H) :
    tE X.K md Wx (fun ρ => (evalE md.l en ma ρ).bind still) σ H fun v1 H1 => tE X.K md Wx (fun ρ => (evalE md.l en mb ρ).bind still) σ H1 fun v2 H2 => D.nx ((σ.set i (some v1)).set j (some v2)) H2 := by
  obtain ⟨G, ρ, R, w⟩ := w
  have w : Want _ (if free md.l i = true ∧ free md.l j = true then ((evalE md.l en ma ρ).bind still).bind fun x ρ => ((evalE md.l en mb ρ).bind still).bind fun y ρ =>
      (putS i x ρ).bind fun _ ρ => (putS j y ρ).bind fun _ ρ => .ok .nx ρ
    else .stuck) (FlP G X.K md H D) := w
  by_cases hf : free md.l i = true ∧ free md.l j = true
  case neg => rw [if_neg hf] at w; exact False.elim w
  rw [if_pos hf] at w
  refine ⟨G, ρ, R, w.bind.mono fun x1 ρ1 w v1 H1 fr1 sb1 R1 rep1 => ⟨G, ρ1, R1, w.bind.mono fun x2 ρ2 w v2 H2 fr2 sb2 R2 rep2 => ?_⟩⟩
  have hw1 : ∀ b, H b = none → Owned σ ρ1 b → False := fun b n q => R.fresh n (sb1.owned q)
  have hw2 : ∀ b, H b = none → Owned σ ρ2 b → False := fun b n q => hw1 b n (sb2.owned q)
  have rep1' : RepEV X.K σ H H2 v1 x1 := rep1.step R1 hw1 fr2
  cases z : putS i x1 ρ2 with
  | exc x ρ => exact absurd z putS_exc
  | stuck => rw [z] at w; exact False.elim w
  | ok u ρ3 =>
    rw [z] at w
    have R3 := put_ok R2 hf.1 hw2 R.thr rep1' z
    have w : Want _ ((putS j x2 ρ3).bind fun _ ρ => .ok .nx ρ) (FlP G X.K md H D) := w
    cases z2 : putS j x2 ρ3 with
    | exc x ρ => exact absurd z2 putS_exc
    | stuck => rw [z2] at w; exact False.elim w
    | ok u ρ4 =>
      rw [z2] at w
      have hne : (∀ j', x2 ≠ .al j') := fun j' q => by rw [q] at z2; cases z2
      have rep2' : RepEV X.K (σ.set i (some v1)) H1 H2 v2 x2 := by
        cases x2 with
        | val d => exact rep2
        | fr d => exact rep2
        | al j' => exact absurd rfl (hne j')
      have hw3 : ∀ b, H1 b = none → Owned (σ.set i (some v1)) ρ3 b → False := fun b n q => by
        have nb : ¬ Owned σ ρ2 b := fun q => by
          have q' := sb2.owned q
          exact R1.fresh n q'
        obtain ⟨l, d, q1, q2⟩ := q
        by_cases hl : i = l
        · subst hl
          cases x1 with
          | val d' =>
            cases z
            by_cases hlt : i < ρ2.length
            · rw [List.getElem?_set_self hlt] at q1; cases q1
            · rw [List.getElem?_eq_none (by rw [List.length_set]; omega)] at q1; cases q1
          | fr d' =>
            cases z
            obtain ⟨a1, ea, _, b1, u1, eb, h4, _⟩ := rep1
            by_cases hlt : i < σ.length
            · rw [List.getElem?_set_self hlt] at q2
              cases q2
              cases eb
              rw [n] at h4; cases h4
            · rw [List.getElem?_eq_none (by rw [List.length_set]; omega)] at q2; cases q2
          | al j' => cases z
        · rw [List.getElem?_set_ne hl] at q2
          refine nb ⟨l, d, ?_, q2⟩
          cases x1 with
          | val d' => cases z; rw [List.getElem?_set_ne hl] at q1; exact q1
          | fr d' => cases z; rw [List.getElem?_set_ne hl] at q1; exact q1
          | al j' => cases z
      have R4 := put_ok R3 hf.2 hw3 R1.thr rep2' z2
      exact (show FlP G X.K md H D .nx ρ4 from w) _ H2 R4 ((R.ext fr1).trans (R1.ext fr2))
/-- a, b = value, value -/
theorem sd_par (i j : Nat) {kt k2 : Nat} {px py pt pt2 : Pos} (hc : X.calm = true) (hN : X.N.Nodup) (hi : X.N[i]? = some x) (hj : X.N[j]? = some y) (hij : i ≠ j) (hx : X.env.scope.names.lookup x = some .local) (hy : X.env.scope.names.lookup y = some .local) (ha : PD md en Wx X a ma) (hb : PD md en Wx X b mb)
    (hw : swappedStores [.Tuple [.Name x px, .Name y py] kt pt] (.Tuple [a, b] k2 pt2) X.env = pure (some [x, y])) (hs : swapsWithSole [.Tuple [.Name x px, .Name y py] kt pt] (.Tuple [a, b] k2 pt2) pos.line X.env = pure false)
    (h1 : starEach [a, b] X.env = (false, eval a X.env) :: starEach [b] X.env := by rfl) (h2 : starEach [b] X.env = (false, eval b X.env) :: starEach [] X.env := by rfl) :
    SD W md en Wx X (.Assign [.Tuple [.Name x px, .Name y py] kt pt] (.Tuple [a, b] k2 pt2) pos) (.par i j ma mb) :=
  PS.imp (ps_par hc hN hi hj hij hx hy (pa_cons (PE.toS ha) (pa_cons (PE.toS hb) pa_nil h2) h1) hw hs) fun D σ H w => tE.mono (par_red w) fun v1 H1 q => tE.mono q fun v2 H2 q => ⟨v1, v2, rfl, q⟩
theorem FlP.tup {G : Gh} {K : PySem.W.Frag} {md : Rm} {H : Hp} {D : Ends} {fl : Fl} {ρ' : Dn.Env} (p : FlP G K md H D fl ρ') : FlP G K md H { D with nx := fun σ' H' => ∀ p xs, H' p = none → D.nx σ' (upd H' p (.tup xs)) } fl ρ' := by
  cases fl with
  | nx => exact fun σ' H' R e t xs ht => p σ' _ (R.grow (Ex.new ht)) (e.trans (Ex.new ht).ext)
  | brk => exact p
  | cnt => exact p
  | ret e => exact p
/-- .. where a name is a cell: a tuple is made and taken apart -/
theorem sd_parC (i j : Nat) {kt k2 : Nat} {px py pt pt2 : Pos} (hc : X.calm = true) (hN : X.N.Nodup) (hi : X.N[i]? = some x) (hj : X.N[j]? = some y) (hx : Loc X.env.scope x) (hy : Loc X.env.scope y) (hfx : X.fn x = true ∨ X.env.scope.names.lookup x = some .local) (hfy : X.fn y = true ∨ X.env.scope.names.lookup y = some .local)
    (ha : PD md en Wx X a ma) (hb : PD md en Wx X b mb)
    (hw : swappedStores [.Tuple [.Name x px, .Name y py] kt pt] (.Tuple [a, b] k2 pt2) X.env = pure none) (hs : swapsWithSole [.Tuple [.Name x px, .Name y py] kt pt] (.Tuple [a, b] k2 pt2) pos.line X.env = pure false)
    (h1 : starEach [a, b] X.env = (false, eval a X.env) :: starEach [b] X.env := by rfl) (h2 : starEach [b] X.env = (false, eval b X.env) :: starEach [] X.env := by rfl)
    (h3 : (assignEach [.Tuple [.Name x px, .Name y py] kt pt] X.env).map (·.2) = [assign (.Tuple [.Name x px, .Name y py] kt pt) X.env] := by rfl)
    (h4 : (assignEach [.Name x px, .Name y py] X.env).map (·.2) = assign (.Name x px) X.env :: (assignEach [.Name y py] X.env).map (·.2) := by rfl) (h5 : (assignEach [.Name y py] X.env).map (·.2) = assign (.Name y py) X.env :: (assignEach [] X.env).map (·.2) := by rfl)
    (h6 : (assignEach [.Name x px, .Name y py] X.env).length = 2 := by rfl) (h7 : (assignEach [.Name x px, .Name y py] X.env).findIdx? (·.1) = none := by rfl) :
    SD W md en Wx X (.Assign [.Tuple [.Name x px, .Name y py] kt pt] (.Tuple [a, b] k2 pt2) pos) (.par i j ma mb) :=
  PS.imp (ps_asg (pe_tup (pa_cons (PE.toS ha) (pa_cons (PE.toS hb) pa_nil h2) h1)) (pg_tup hc (pgs_cons (pg_name hN hi hx hfx) (pgs_cons (pg_name hN hj hy hfy) pgs_nil h5) h4) h6 h7) hs hw h3) fun D σ H ⟨G, ρ, R, w⟩ =>
    tE.mono (par_red (D := { D with nx := fun σ' H' => ∀ p xs, H' p = none → D.nx σ' (upd H' p (.tup xs)) }) ⟨G, ρ, R, w.mono fun fl ρ' pf => pf.tup⟩) fun v1 H1 q => tE.mono q fun v2 H2 q =>
      ⟨by rw [sizeLine_eq]; show 2 ≤ 16777216; decide, fun p hp => ⟨p, [v1, v2], rfl, SqT.of upd_same, rfl, v1, [v2], rfl, v2, [], rfl, rfl, q p [v1, v2] hp⟩⟩
/-- name op= value, ints and texts -/
def rAug (K : PySem.W.Frag) (o : BOp) : R2 := fun x y H Q => ∃ dx dy r, RdD K H x dx ∧ RdD K H y dy ∧ augD o dx dy = some r ∧ ∀ v, Rep K H v r → Q v H
theorem ip_aug (o : BOp) : PIp X (bop o) (rAug X.K o) := by
  intro pins s σ H x y v u Q I rx ry h
  obtain ⟨dx, dy, r, hx, hy, e, q⟩ := h
  cases o with
  | add =>
    cases dx with
    | int i =>
      cases dy with
      | int j => cases e; cases hx; cases hy; exact iop_add pins s σ H _ _ v u Q I rx ry ⟨i, j, rfl, rfl, q _ (.int _)⟩
      | _ => cases e
    | str i =>
      cases dy with
      | str j =>
        by_cases hz : i.length + j.length ≤ szl
        · have e' : some (PyData.str (i ++ j)) = some r := by rw [← e]; exact (if_pos hz).symm
          cases e'; cases hx; cases hy
          exact iop_add_str pins s σ H _ _ v u Q I rx ry ⟨i, j, rfl, rfl, by rw [← szl_eq]; exact hz, q _ (.str _)⟩
        · have e' : none = some r := by rw [← e]; exact (if_neg hz).symm
          cases e'
      | _ => cases e
    | _ => cases dy <;> cases e
  | sub =>
    cases dx with
    | int i =>
      cases dy with
      | int j => cases e; cases hx; cases hy; exact iop_sub pins s σ H _ _ v u Q I rx ry ⟨i, j, rfl, rfl, q _ (.int _)⟩
      | _ => cases e
    | _ => cases dy <;> cases e
  | mul =>
    cases dx with
    | int i =>
      cases dy with
      | int j =>
        by_cases hz : (-(2 ^ 64) < i ∧ i < 2 ^ 64) ∨ (-(2 ^ 64) < j ∧ j < 2 ^ 64)
        · have e' : some (PyData.int (i * j)) = some r := by rw [← e]; exact (if_pos hz).symm
          cases e'; cases hx; cases hy
          exact iop_mul pins s σ H _ _ v u Q I rx ry ⟨i, j, rfl, rfl, hz, q _ (.int _)⟩
        · have e' : none = some r := by rw [← e]; exact (if_neg hz).symm
          cases e'
      | _ => cases e
    | _ => cases dy <;> cases e
  | fdiv =>
    cases dx with
    | int i =>
      cases dy with
      | int j =>
        by_cases hz : 0 < j ∧ j < 1073741824
        · have e' : some (PyData.int (i / j)) = some r := by rw [← e]; exact (if_pos hz).symm
          cases e'; cases hx; cases hy
          exact iop_fdiv pins s σ H _ _ v u Q I rx ry ⟨i, j, rfl, rfl, hz, q _ (.int _)⟩
        · have e' : none = some r := by rw [← e]; exact (if_neg hz).symm
          cases e'
      | _ => cases e
    | _ => cases dy <;> cases e
  | mod =>
    cases dx with
    | int i =>
      cases dy with
      | int j =>
        by_cases hz : 0 < j
        · have e' : some (PyData.int (i % j)) = some r := by rw [← e]; exact (if_pos hz).symm
          cases e'; cases hx; cases hy
          exact iop_mod pins s σ H _ _ v u Q I rx ry ⟨i, j, rfl, rfl, hz, q _ (.int _)⟩
        · have e' : none = some r := by rw [← e]; exact (if_neg hz).symm
          cases e'
      | _ => cases e
    | _ => cases dy <;> cases e
  | pow => cases dx <;> cases dy <;> cases e
theorem sd_aug (i : Nat) (o : BOp) (hN : X.N.Nodup) (hi : X.N[i]? = some x) (hx : Loc X.env.scope x) (he : PD md en Wx X e m) (hf : X.fn x = true ∨ X.env.scope.names.lookup x = some .local) : SD W md en Wx X (.AugAssign (.Name x p1) (bop o) e pos) (.aug i o m) := by
  refine PS.imp (ps_aug hN hi hx (PE.toV he) (ip_aug o) hf) fun D σ H ⟨G, ρ, R, w⟩ => ?_
  have w : Want _ (if free md.l i = true then match ρ[i]? with
    | some (.val x) => ((evalE md.l en m ρ).bind settle).bind fun y ρ => on (augD o x y) fun z => .ok .nx (ρ.set i (.val z))
    | _ => .stuck
    else .stuck) (FlP G X.K md H D) := w
  by_cases hf : free md.l i = true
  case neg => rw [if_neg hf] at w; exact False.elim w
  rw [if_pos hf] at w
  cases z : ρ[i]? with
  | none => rw [z] at w; exact False.elim w
  | some t =>
    rw [z] at w
    cases t with
    | val d =>
      obtain ⟨v, h1, h2⟩ := R.val i d z
      refine ⟨v, h1, G, ρ, R, w.bind.mono fun d2 ρ1 w u H1 fr sb R1 rep => ?_⟩
      obtain ⟨r, e1, w⟩ := Want.on w
      exact ⟨d, d2, r, (h2.mono (R.ext fr)).rd, rep.rd, e1, fun v' rv => (show FlP G X.K md H D .nx (ρ1.set i (.val r)) from w) _ H1 (R1.putVal hf rv) (R.ext fr)⟩
    | _ => exact False.elim w
theorem own_there {G : Gh} {K : PySem.W.Frag} {σ : St} {ρ : Dn.Env} {H : Hp} {i : Nat} (R : RS G K md σ ρ H) (h : isOwn ρ i = true) : ∃ v, σ[i]? = some (some v) := by
  unfold isOwn at h
  split at h
  · rename_i d e
    obtain ⟨v, h1, _⟩ := R.own i _ e
    exact ⟨v, h1⟩
  · cases h
/-- name[k] = value -/
theorem sd_put (i : Nat) (hi : X.N[i]? = some x) (hx : Vis X.env.scope x) (he : PD md en Wx X e m) (hk : PD md en Wx X k mk) (hs : swapsWithSole [.Subscript (.Name x p1) k p2] e pos.line X.env = pure false) (hw : swappedStores [.Subscript (.Name x p1) k p2] e X.env = pure none)
    (ha : ∀ v, assign (.Subscript (.Name x p1) k p2) X.env v = (do
      let ov ← holding [v] (eval (.Name x p1) X.env)
      let iv ← holding [v, ov] (eval k X.env)
      standAt p2
      holding [v, ov, iv] (setItem ov iv v)
      release [v, ov, iv] []) := by intro _; rfl)
    (h1 : (assignEach [.Subscript (.Name x p1) k p2] X.env).map (·.2) = [assign (.Subscript (.Name x p1) k p2) X.env] := by rfl) (hd : (x == ("__debug__" : Str)) = false := by decide) (hcd : (x == ("__classdict__" : Str)) = false := by decide) : SD W md en Wx X (.Assign [.Subscript (.Name x p1) k p2] e pos) (.put i mk m) := by
  refine PS.imp (ps_asg (PE.toV he) (pg_sub (pe_var hi hx hd hcd) (PE.toV hk) set_list ha) hs hw h1) fun D σ H ⟨G, ρ, R, w⟩ => ?_
  have w : Want _ (((evalE md.l en m ρ).bind settle).bind fun d ρ => if isOwn ρ i = true then ((evalE md.l en mk ρ).bind settle).bind fun n ρ => match n, ρ[i]? with
    | .int n, some (.own (.list l)) => on (L2.ixN l.length n) fun j => .ok .nx (ρ.set i (.own (.list (l.set j d))))
    | _, _ => .stuck
    else .stuck) (FlP G X.K md H D) := w
  refine ⟨G, ρ, R, w.bind.mono fun d ρ1 w v H1 fr1 sb1 R1 rep1 => ?_⟩
  by_cases ho : isOwn ρ1 i = true
  case neg => rw [if_neg ho] at w; exact False.elim w
  rw [if_pos ho] at w
  obtain ⟨v0, hv⟩ := own_there R1 ho
  refine ⟨v0, hv, G, ρ1, R1, w.bind.mono fun n ρ2 w u H2 fr2 sb2 R2 rep2 => ?_⟩
  cases n with
  | int n =>
    cases rep2
    cases zi : ρ2[i]? with
    | none => simp only [zi] at w; exact False.elim w
    | some t =>
      cases t with
      | own d2 =>
        cases d2 with
        | list l =>
          simp only [zi] at w
          obtain ⟨j, ej, w⟩ := Want.on w
          obtain ⟨p, xs, rfl, hp, rxs, U⟩ := upd_own (es := l.set j d) R2 zi hv
          obtain ⟨fr3, sb3, R3⟩ := U (xs.set j v) (rxs.set j (rep1.mono (R1.ext fr2)))
          refine ⟨p, xs, n, j, rfl, rfl, hp, by rw [rxs.length]; exact ej, ?_⟩
          exact (show FlP G X.K md H D .nx _ from w) σ _ R3 ((R.ext fr1).trans ((R1.ext fr2).trans (R2.ext fr3)))
        | _ => simp only [zi] at w; exact False.elim w
      | _ => simp only [zi] at w; exact False.elim w
  | _ => exact False.elim w
theorem ownD_there {G : Gh} {K : PySem.W.Frag} {σ : St} {ρ : Dn.Env} {H : Hp} {i : Nat} (R : RS G K md σ ρ H) (h : isOwnD ρ i = true) : ∃ v, σ[i]? = some (some v) := by
  unfold isOwnD at h
  split at h
  · rename_i d e
    obtain ⟨v, h1, _⟩ := R.own i _ e
    exact ⟨v, h1⟩
  · cases h
/-- name[k] = value, name a dict -/
theorem sd_putD (i : Nat) (hu : X.A.units + 1 < cLine) (he : PD md en Wx X e m) (hk : PD md en Wx X k mk) (hi : X.N[i]? = some x := by rfl) (hx : Vis X.env.scope x := by first | exact Or.inl rfl | exact Or.inr (Or.inl rfl) | exact Or.inr (Or.inr rfl))
    (hs : swapsWith e (some (.Subscript (.Name x p1) k p2)) pos.line X.env = pure false := by rfl) (hd : (x == ("__debug__" : Str)) = false := by decide) (hcd : (x == ("__classdict__" : Str)) = false := by decide) : SD W md en Wx X (.Assign [.Subscript (.Name x p1) k p2] e pos) (.putD i mk m) := by
  refine PS.imp (ps_dput hu (pe_var hi hx hd hcd) (PE.toV hk) (PE.toV he) hs) fun D σ H ⟨G, ρ, R, w⟩ => ?_
  have w : Want _ (((evalE md.l en m ρ).bind settle).bind fun d ρ => if isOwnD ρ i = true then ((evalE md.l en mk ρ).bind settle).bind fun n ρ => match keyOf n, ρ[i]? with
    | some n, some (.own (.dict l)) => if l.length < szl then .ok .nx (ρ.set i (.own (.dict (putKD n d l)))) else .stuck
    | _, _ => .stuck
    else .stuck) (FlP G X.K md H D) := w
  refine ⟨G, ρ, R, w.bind.mono fun d ρ1 w v H1 fr1 sb1 R1 rep1 => ?_⟩
  by_cases ho : isOwnD ρ1 i = true
  case neg => rw [if_neg ho] at w; exact False.elim w
  rw [if_pos ho] at w
  obtain ⟨v0, hv⟩ := ownD_there R1 ho
  refine ⟨v0, hv, G, ρ1, R1, w.bind.mono fun n ρ2 w u H2 fr2 sb2 R2 rep2 => ?_⟩
  cases ek : keyOf n with
  | none => simp only [ek] at w; exact False.elim w
  | some kk =>
    obtain rfl := keyOf_inv ek
    cases zi : ρ2[i]? with
    | none => simp only [ek, zi] at w; exact False.elim w
    | some t =>
      cases t with
      | own d2 =>
        cases d2 with
        | dict l =>
          simp only [ek, zi] at w
          by_cases hz : l.length < szl
          case neg => rw [if_neg hz] at w; exact False.elim w
          rw [if_pos hz] at w
          obtain ⟨p, u0, rfl, hp, c, U⟩ := upd_any (es := .dict (putKD kk d l)) R2 zi hv
          obtain ⟨ps, rfl, r⟩ := c.invD
          obtain ⟨fr3, sb3, R3⟩ := U (.dK (putK ps kk v)) (RepKs.put kk r (rep1.mono (R1.ext fr2)))
          have ey : u = kV kk := by cases kk <;> (cases rep2; rfl)
          subst ey
          refine ⟨p, _, rfl, DPut.k hp (by rw [r.length, ← szl_eq]; exact hz), ?_⟩
          exact (show FlP G X.K md H D .nx _ from w) σ _ R3 ((R.ext fr1).trans ((R1.ext fr2).trans (R2.ext fr3)))
        | _ => simp only [ek, zi] at w; exact False.elim w
      | _ => simp only [ek, zi] at w; exact False.elim w
theorem tyv_own {G : Gh} {σ : St} {ρ : Dn.Env} {H : Hp} {i : Nat} (R : RS G X.K md σ ρ H) (h : isOwn ρ i = true) : ∃ v, σ[i]? = some (some v) ∧ tyV X.K "list" v H := by
  unfold isOwn at h
  split at h
  · rename_i d e
    obtain ⟨v, h1, h2⟩ := R.own i _ e
    obtain ⟨a, xs, rfl, h4, _⟩ := h2.list
    exact ⟨_, h1, .inl ⟨rfl, xs, SqL.of h4⟩⟩
  · cases h
/-- name.append(value) -/
theorem sd_app (i : Nat) {apos : Pos} (hi : X.N[i]? = some x) (hx : Vis X.env.scope x) (he : PD md en Wx X e m) (hs : swapsWith (.Call (.Attribute (.Name x p1) "append" apos) [e] [] p2) none pos.line X.env = pure false)
    (hbase : attributeBase (.Name x p1) "append" X.env (eval (.Name x p1) X.env) = eval (.Name x p1) X.env := by rfl)
    (hfew : ((backTo p2 (starEach [e] X.env)).all (fun x => !x.1) && (backToKw p2 (keywordEach [] X.env)).all (fun x => x.1.isSome)
      && decide ([e].length + ([] : List Keyword).length + (if ([] : List Keyword).isEmpty then 0 else 1) < 30)) = true := by rfl)
    (hline : (apos.endLine == p2.line) = true := by rfl) (h1 : starEach [e] X.env = (false, eval e X.env) :: starEach [] X.env := by rfl) (hplain : (backTo p2 (starEach [] X.env)).any (·.1) = false := by rfl) (hd : (x == ("__debug__" : Str)) = false := by decide) (hcd : (x == ("__classdict__" : Str)) = false := by decide) :
    SD W md en Wx X (.Expr (.Call (.Attribute (.Name x p1) "append" apos) [e] [] p2) pos) (.app i m) := by
  refine PS.imp (ps_expr (pe_bm PySem.F.plainAttrs_list PySem.F.slot_list_append PySem.F.type_list_append mt_append (pe_var hi hx hd hcd) (pa_cons (PE.toV he) pa_nil h1) hbase hfew hline h1 hplain) hs) fun D σ H ⟨G, ρ, R, w⟩ => ?_
  have w : Want _ (if isOwn ρ i = true then ((evalE md.l en m ρ).bind settle).bind fun d ρ => match ρ[i]? with
    | some (.own (.list l)) => if l.length < szl then .ok .nx (ρ.set i (.own (.list (l ++ [d])))) else .stuck
    | _ => .stuck
    else .stuck) (FlP G X.K md H D) := w
  by_cases ho : isOwn ρ i = true
  case neg => rw [if_neg ho] at w; exact False.elim w
  rw [if_pos ho] at w
  obtain ⟨v0, hv, ty⟩ := tyv_own R ho
  refine ⟨v0, hv, ty, G, ρ, R, w.bind.mono fun d ρ1 w v H1 fr1 sb1 R1 rep1 => ?_⟩
  cases zi : ρ1[i]? with
  | none => simp only [zi] at w; exact False.elim w
  | some t =>
    cases t with
    | own d2 =>
      cases d2 with
      | list l =>
        simp only [zi] at w
        by_cases hz : l.length < szl
        case neg => rw [if_neg hz] at w; exact False.elim w
        rw [if_pos hz] at w
        obtain ⟨p, xs, rfl, hp, rxs, U⟩ := upd_own (es := l ++ [d]) R1 zi hv
        obtain ⟨fr3, sb3, R3⟩ := U (xs ++ [v]) (rxs.append (.cons rep1 .nil))
        exact ⟨p, xs, v, rfl, rfl, hp, by rw [rxs.length, ← szl_eq]; exact hz, (show FlP G X.K md H D .nx _ from w) σ _ R3 ((R.ext fr1).trans (R1.ext fr3))⟩
      | _ => simp only [zi] at w; exact False.elim w
    | _ => simp only [zi] at w; exact False.elim w
/-- name.pop() -/
theorem pd_pop (i : Nat) {apos : Pos} (hi : X.N[i]? = some x) (hx : Vis X.env.scope x) (hbase : attributeBase (.Name x p1) "pop" X.env (eval (.Name x p1) X.env) = eval (.Name x p1) X.env := by rfl) (hline : (apos.endLine == p2.line) = true := by rfl)
    (hd : (x == ("__debug__" : Str)) = false := by decide) (hcd : (x == ("__classdict__" : Str)) = false := by decide) : PD md en Wx X (.Call (.Attribute (.Name x p1) "pop" apos) [] [] p2) (.pop i) := by
  refine PE.imp (pe_bm0 PySem.F.plainAttrs_list PySem.F.slot_list_pop PySem.F.type_list_pop mt_pop (pe_var hi hx hd hcd) hbase hline) fun σ H Q ⟨G, ρ, R, w⟩ => ?_
  have w : Want _ (match ρ[i]? with
    | some (.own (.list l)) => on l.getLast? fun d => .ok (.val d) (ρ.set i (.own (.list l.dropLast)))
    | _ => .stuck) (Aft G X.K md σ ρ H Q) := w
  cases zi : ρ[i]? with
  | none => simp only [zi] at w; exact False.elim w
  | some t =>
    cases t with
    | own d2 =>
      cases d2 with
      | list l =>
        simp only [zi] at w
        obtain ⟨d, ed, w⟩ := Want.on w
        obtain ⟨v0, hv, _⟩ := R.own i _ zi
        obtain ⟨p, xs, rfl, hp, rxs, U⟩ := upd_own (es := l.dropLast) R zi hv
        obtain ⟨fr3, sb3, R3⟩ := U xs.dropLast rxs.dropLast
        rw [List.getLast?_eq_getElem?] at ed
        obtain ⟨u, hu, ru⟩ := rxs.get ed
        refine ⟨_, hv, .inl ⟨rfl, xs, SqL.of hp⟩, p, xs, u, rfl, rfl, hp, by rw [rxs.length]; exact hu, ?_⟩
        exact (show Aft G X.K md σ ρ H Q (.val d) _ from w) u _ fr3 sb3 R3 (ru.mono (R.ext fr3))
      | _ => simp only [zi] at w; exact False.elim w
    | _ => simp only [zi] at w; exact False.elim w
/-- name.pop(place) -/
theorem pd_popAt (i : Nat) {apos : Pos} (hi : X.N[i]? = some x) (hx : Vis X.env.scope x) (he : PD md en Wx X e m) (hbase : attributeBase (.Name x p1) "pop" X.env (eval (.Name x p1) X.env) = eval (.Name x p1) X.env := by rfl)
    (hfew : ((backTo p2 (starEach [e] X.env)).all (fun x => !x.1) && (backToKw p2 (keywordEach [] X.env)).all (fun x => x.1.isSome)
      && decide ([e].length + ([] : List Keyword).length + (if ([] : List Keyword).isEmpty then 0 else 1) < 30)) = true := by rfl)
    (hline : (apos.endLine == p2.line) = true := by rfl) (h1 : starEach [e] X.env = (false, eval e X.env) :: starEach [] X.env := by rfl) (hplain : (backTo p2 (starEach [] X.env)).any (·.1) = false := by rfl) (hd : (x == ("__debug__" : Str)) = false := by decide) (hcd : (x == ("__classdict__" : Str)) = false := by decide) :
    PD md en Wx X (.Call (.Attribute (.Name x p1) "pop" apos) [e] [] p2) (.popAt i m) := by
  refine PE.imp (pe_bm PySem.F.plainAttrs_list PySem.F.slot_list_pop PySem.F.type_list_pop mt_popAt (pe_var hi hx hd hcd) (pa_cons (PE.toV he) pa_nil h1) hbase hfew hline h1 hplain) fun σ H Q ⟨G, ρ, R, w⟩ => ?_
  have w : Want _ (if isOwn ρ i = true then ((evalE md.l en m ρ).bind settle).bind fun k ρ => match k, ρ[i]? with
    | .int k, some (.own (.list l)) => if -(2 ^ 63) ≤ k ∧ k < 2 ^ 63 then on (L2.ixN l.length k) fun j => on l[j]? fun d => .ok (.val d) (ρ.set i (.own (.list (l.eraseIdx j)))) else .stuck
    | _, _ => .stuck
    else .stuck) (Aft G X.K md σ ρ H Q) := w
  by_cases ho : isOwn ρ i = true
  case neg => rw [if_neg ho] at w; exact False.elim w
  rw [if_pos ho] at w
  obtain ⟨v0, hv, ty⟩ := tyv_own R ho
  refine ⟨v0, hv, ty, G, ρ, R, w.bind.mono fun d ρ1 w v H1 fr1 sb1 R1 rep1 => ?_⟩
  cases d with
  | int n =>
    cases rep1
    cases zi : ρ1[i]? with
    | none => simp only [zi] at w; exact False.elim w
    | some t =>
      cases t with
      | own d2 =>
        cases d2 with
        | list l =>
          simp only [zi] at w
          by_cases hz : -(2 ^ 63) ≤ n ∧ n < 2 ^ 63
          case neg => rw [if_neg hz] at w; exact False.elim w
          rw [if_pos hz] at w
          obtain ⟨j, ej, w⟩ := Want.on w
          obtain ⟨d, ed, w⟩ := Want.on w
          obtain ⟨p, xs, rfl, hp, rxs, U⟩ := upd_own (es := l.eraseIdx j) R1 zi hv
          obtain ⟨fr3, sb3, R3⟩ := U (xs.eraseIdx j) (rxs.eraseIdx j)
          obtain ⟨u, hu, ru⟩ := rxs.get ed
          refine ⟨p, xs, n, j, u, rfl, rfl, hp, hz.1, hz.2, by rw [rxs.length]; exact (ixN_seq ej).1, hu, ?_⟩
          exact (show Aft G X.K md σ ρ H Q (.val d) _ from w) u _ (fr1.trans sb1 fr3) (sb1.trans sb3) R3 (ru.mono (R1.ext fr3))
        | _ => simp only [zi] at w; exact False.elim w
      | _ => simp only [zi] at w; exact False.elim w
  | _ => exact False.elim w
end
end Dn
/-! Den13: a def by its body -/
namespace Dn
open PySem PySem.Spec PyProof.Rows L2

/-- the code object of the def at f -/
def CodeAt (K : PySem.W.Frag) (f : Addr) (cdv : Value) : Prop := ∃ oc od fd osl, K.lookup f = some ⟨oc, od, .func fd, osl⟩ ∧ fd.code = cdv
theorem CodeAt.inj {K : PySem.W.Frag} {f : Addr} {c d : Value} (a : CodeAt K f c) (b : CodeAt K f d) : c = d := by
  obtain ⟨oc, od, fd, osl, h1, h2⟩ := a
  obtain ⟨oc', od', fd', osl', h3, h4⟩ := b
  rw [h1] at h3
  cases h3
  rw [← h2, ← h4]
/-- a list may be locked on the way out -/
def Lk (Q : VK) : VK := fun v H => Q v H ∨ ∃ a u, H a = some u ∧ Lkb u ∧ ∀ o, Q v (upd H a (.frz o u))
section
variable {P : Program} {w : World} {K : PySem.W.Frag} {mg : Str → Option Value} {base : Heap}
abbrev bodyCx (P : Program) (w : World) (K : PySem.W.Frag) (mg : Str → Option Value) (base : Heap) (N : List Str) (qual : Str) (sc : Scope) (f : Addr) (cdv : Value) (A : Around) (outer : List PySem.Env) (s : Shared) (H : Hp) (E : XK) : Cx :=
  cxOf (L2.CX P w) P w K mg base N qual sc f cdv A outer s H E
theorem fun_den {x qual : Str} {st : Stmt} {f : Addr} {g : FuncData} {N ps : List Str} {k : Nat} {sp : Sp} (F : Fun K x qual st f g) (S : FnScope N ps (defScope st)) (len : ∀ vs H Q E, sp vs H Q E → vs.length = ps.length)
    (hb : ∀ (cdv : Value) (A : Around) (outer : List PySem.Env) (s : Shared) (H : Hp) (vs : List V) (Q : VK) (E : XK), Room k (A.deeper (envOfC qual (defScope st) s.heap.objs.size f cdv)) → A.guards = some [] → CodeAt K f cdv → sp vs H Q E →
      ∃ t, PSs (bodyCx P w K mg base N qual (defScope st) f cdv A outer s H E) (defBody st) t ∧ t { nx := fun _ H' => Q .non H', rt := Lk Q } (L2.start N vs) H) : FnG P w K mg base (k + 1) f g ps sp := by
  obtain ⟨oc, od, kV, doc, pm, an, cdv, ct, osl, rfl, hlk, hcode⟩ := F.ex
  refine ⟨len, ?_⟩
  intro A outer s H args us vs Q E room gd env0 binds vals want
  have same := len _ _ _ _ want
  have inK : K.In s.heap := env0.mod.kin.keeps fun b o z => (env0.bs b o z).1
  have lim : s.heap.NoLimit := env0.mod.nolimit.keeps fun b o z => (env0.bs b o z).1
  have kinds : ∀ y ∈ ps.zip us, (defScope st).names.lookup y.1 = some .local ∨ ((defScope st).names.lookup y.1 = some .cell ∧ ((cellsFrom (s.heap.objs.size + 1) (defScope st).names []).lookup y.1).isSome = true) := by
    intro y hy
    cases S.par y.1 (List.of_mem_zip hy).1 with
    | inl l => exact .inl l
    | inr c => exact .inr ⟨c, PySem.W.cellsFrom_some _ _ _ (.inl c)⟩
  apply codeAny_call_function room.depth (inK _ _ hlk) rfl S.co S.gen rfl (PySem.W.codeRec_of inK hcode)
  apply binds
  apply wpAny_newFunctionEnv_cells S.kind kinds
  intro env rfl0 s1 x
  subst rfl0
  refine ⟨lim.keeps x.toInCall.keep, codeAny_func ?_⟩
  obtain ⟨t, ht, at0⟩ := hb cdv A outer s H vs Q E (room.deeper _) gd ⟨_, _, _, _, hlk, rfl⟩ want
  have I0 : L2.Inv (cxOf (L2.CX P w) P w K mg base N qual (defScope st) f cdv A outer s H E) [] (L2.start N vs) H s1 := inv_start S room.hd env0 same vals x
  apply wpAny_mono (ht.run [] s1 (L2.start N vs) H _ I0 at0)
  · intro fl s' z
    have done : ∀ {σ' : L2.St} {H' : Hp} {v : V} {u : Value}, L2.Inv (cxOf (L2.CX P w) P w K mg base N qual (defScope st) f cdv A outer s H E) [] σ' H' s' → RelV v u → Q v H' → CE outer P w H s Q u s' := by
      intro σ' H' v u J rv q
      exact ⟨v, H', J.os, J.bare, J.base, J.hok, rv, q⟩
    cases fl with
    | next => obtain ⟨σ', H', J, q⟩ := z; exact done (v := .non) (u := .none) J rfl q
    | brk => obtain ⟨_, _, _, q⟩ := z; cases q
    | cont => obtain ⟨_, _, _, q⟩ := z; cases q
    | ret u =>
      obtain ⟨v, σ', H', J, rv, q⟩ := z
      rcases q with q | ⟨a, u0, ha, l, q⟩
      · exact done J rv q
      · obtain ⟨o, J2⟩ := Dn.Inv.lock J ha l
        exact done J2 rv (q o)
  · intro e s' z
    exact z
end
/-! ### the promise -/
theorem start_get {N : List Str} {vs : List V} {i : Nat} {v : V} (h : vs[i]? = some v) : (L2.start N vs)[i]? = some (some v) := by
  have hi : i < vs.length := (List.getElem?_eq_some_iff.mp h).1
  unfold L2.start
  rw [List.getElem?_append_left (by simpa using hi), List.getElem?_map, h]
  rfl
theorem get_start {N : List Str} {vs : List V} {i : Nat} {v : V} (h : (L2.start N vs)[i]? = some (some v)) : vs[i]? = some v := by
  unfold L2.start at h
  by_cases hi : i < vs.length
  · rw [List.getElem?_append_left (by simpa using hi), List.getElem?_map] at h
    cases e : vs[i]? with
    | none => rw [e] at h; cases h
    | some a => rw [e] at h; cases h; rfl
  · rw [List.getElem?_append_right (by simpa using hi), List.getElem?_replicate] at h
    split at h <;> cases h
section
variable {K : PySem.W.Frag} {ml : List Bool} {md : Rm} {H : Hp} {vs : List V} {ss : List Slot} {N : List Str} {n : Nat}
def ghost (H : Hp) (vs : List V) (ss : List Slot) : Gh := { A := AOwn vs ss, H0 := H, fx := fun i => vs[i]? }
theorem get_un {s : Slot} {i : Nat} (h : (ss ++ List.replicate n Slot.un)[i]? = some s) (hs : s ≠ .un) : ss[i]? = some s := by
  by_cases hi : i < ss.length
  · rwa [List.getElem?_append_left hi] at h
  · rw [List.getElem?_append_right (by omega), List.getElem?_replicate] at h
    split at h
    · cases h; exact absurd rfl hs
    · cases h
theorem rs_start (a : ArgsOk K md.l H vs ss) (g : Glo md H) (hz : ∀ Ha, md.h0 = some Ha → Ext Ha H) (hl : vs.length = ss.length) (hN : N.length = ss.length + n) : RS (ghost H vs ss) K md (L2.start N vs) (ss ++ List.replicate n .un) H := by
  refine ⟨?_, fun i d h => ?_, fun i d h => ?_, fun i j b d e h1 h2 h3 h4 => ?_, fun i b d h1 h2 => ?_, fun b h => h, fun b u h _ _ => h, fun i v _ h => start_get h, fun i s h z => ?_, g, fun Ha q => q.elim (fun q => False.elim q) (hz Ha)⟩
  · unfold L2.start
    simp only [List.length_append, List.length_map, List.length_replicate]
    omega
  · obtain ⟨v, h1, h2⟩ := Paired.get2 a.rep (get_un h (by simp))
    exact ⟨v, start_get h1, h2⟩
  · obtain ⟨v, h1, h2⟩ := Paired.get2 a.rep (get_un h (by simp))
    exact ⟨v, start_get h1, h2⟩
  · exact a.dis i j b d e (get_un h1 (by simp)) (get_un h2 (by simp)) (get_start h3) (get_start h4)
  · have q := get_un h1 (by simp)
    exact .inl ⟨⟨i, d, q, get_start h2⟩, a.md i d q⟩
  · obtain ⟨v, h1, h2⟩ := Paired.get2 a.rep (get_un h (fun e => by subst e; cases z))
    cases s <;> first | exact False.elim h2 | cases z
theorem outs_ok {G : Gh} {σ' : L2.St} {ρ' : Env} {H' : Hp} {np : Nat} (a : ArgsOk K md.l H vs ss) (hf : G.fx = fun i => vs[i]?) (hl : ss.length = np) (R : RS G K md σ' ρ' H') (hz : np ≤ ρ'.length) (ha : (ρ'.take np).all isVal = true) : OutsOk K H' vs ss (ρ'.take np) := by
  intro i d v h1 h2
  have hi : i < np := by rw [← hl]; exact (List.getElem?_eq_some_iff.mp h1).1
  have f := R.fix i v (a.md i d h1) (by rw [hf]; exact h2)
  have hi' : i < ρ'.length := Nat.lt_of_lt_of_le hi hz
  have e : ρ'[i]? = some ρ'[i] := List.getElem?_eq_getElem hi'
  have e2 : (ρ'.take np)[i]? = some ρ'[i] := by rw [List.getElem?_take_of_lt hi, e]
  refine ⟨_, e2, ?_⟩
  have iv : isVal ρ'[i] = true := List.all_eq_true.mp ha _ (List.mem_of_getElem? e2)
  cases z : ρ'[i] with
  | un => rw [z] at iv; cases iv
  | exc x => rw [z] at iv; cases iv
  | clo => rw [z] at iv; cases iv
  | val d' =>
    obtain ⟨v', q1, q2⟩ := R.val i d' (by rw [e, z])
    rw [f] at q1; cases q1
    exact q2
  | own d' =>
    obtain ⟨v', q1, q2⟩ := R.own i d' (by rw [e, z])
    rw [f] at q1; cases q1
    exact q2
end
theorem outs_inv {np : Nat} {ρ : Env} {f : List Slot → CRes} {P : EV → List Slot → Prop} {E : Exc → List Slot → Prop} (h : WantC (outs np ρ f) P E) : np ≤ ρ.length ∧ (ρ.take np).all isVal = true ∧ WantC (f (ρ.take np)) P E := by
  unfold outs at h
  split at h
  case isTrue z => exact ⟨z.1, z.2, h⟩
  case isFalse => exact False.elim h
/-- what a def's body brings about -/
def PostF (Rt : EV → Env → Prop) (Nx : Env → Prop) : Fl → Env → Prop
  | .nx, ρ => Nx ρ
  | .ret e, ρ => Rt e ρ
  | _, _ => False
section
variable {P : Program} {w : World} {K : PySem.W.Frag} {mg : Str → Option Value} {base : Heap} {md : Rm}
/-- the end of a body -/
theorem body_end {H : Hp} {vs : List V} {ss : List Slot} {Q : VK} {E : XK} {np : Nat} (a : ArgsOk K md.l H vs ss) (hl : ss.length = np) (hm : md.l.length = np) :
    (∀ ρ', WantC (back np (.val .none) ρ') (pOk K md.T vs ss H Q) (pEx K md.cl md.T vs ss H E) → FlP (ghost H vs ss) K md H { nx := fun _ H' => Q .non H', rt := Lk Q } .nx ρ') ∧
    (∀ e ρ', WantC (back np e ρ') (pOk K md.T vs ss H Q) (pEx K md.cl md.T vs ss H E) → FlP (ghost H vs ss) K md H { nx := fun _ H' => Q .non H', rt := Lk Q } (.ret e) ρ') ∧
    (∀ x ρ', WantC (outs np ρ' (.exc x)) (pOk K md.T vs ss H Q) (pEx K md.cl md.T vs ss H E) → ExO (ghost H vs ss) K md (fun cls d _ H => E cls d H) x ρ') := by
  have fin : ∀ {σ' : L2.St} {ρ' : Env} {H' : Hp} {v : V} {e : EV}, RS (ghost H vs ss) K md σ' ρ' H' → WantC (outs np ρ' (.ok e)) (pOk K md.T vs ss H Q) (pEx K md.cl md.T vs ss H E) → RepN K H H' v e → Q v H' := fun {σ' ρ' H' v e} R h r => by
    obtain ⟨hz, ha, h⟩ := outs_inv h
    exact (show pOk K md.T vs ss H Q e (ρ'.take np) from h) v H' ⟨R.keep, R.thr⟩ R.gl.1 r (outs_ok a rfl hl R hz ha)
  refine ⟨fun ρ' h σ' H' R _ => fin R h .non, fun e ρ' q σ' v H' R r => ?_, fun x ρ' h σ cls d H' R rx => ?_⟩
  · cases e with
    | val d => exact .inl (fin R q r)
    | fr d =>
      obtain ⟨r, b, rfl, hb⟩ := r
      exact .inl (fin R q ⟨b, rfl, hb, r⟩)
    | al i =>
      have r : σ'[i]? = some (some v) := r
      unfold back at q
      by_cases hi : i < np
      · simp only [if_pos hi] at q
        cases z : ρ'[i]? with
        | none => rw [show settle (.al i) ρ' = .stuck by show (match ρ'[i]? with | some (.val d) => Res.ok d ρ' | some (.own d) => .ok d (ρ'.set i (.val d)) | _ => .stuck) = _; rw [z]] at q; exact False.elim q
        | some t =>
          cases t with
          | val d =>
            rw [show settle (.al i) ρ' = .ok d ρ' by show (match ρ'[i]? with | some (.val d) => Res.ok d ρ' | some (.own d) => .ok d (ρ'.set i (.val d)) | _ => .stuck) = _; rw [z]] at q
            obtain ⟨v', e1, e2⟩ := R.val i d z
            rw [r] at e1; cases e1
            exact .inl (fin R q e2)
          | own d =>
            rw [show settle (.al i) ρ' = .ok d (ρ'.set i (.val d)) by show (match ρ'[i]? with | some (.val d) => Res.ok d ρ' | some (.own d) => .ok d (ρ'.set i (.val d)) | _ => .stuck) = _; rw [z]] at q
            obtain ⟨b, xs, rfl, h4, lk, ow, L⟩ := lock_slot R z r
            exact .inr ⟨b, xs, h4, lk, fun o => fin (L o).2.1 q (L o).2.2⟩
          | _ => rw [show settle (.al i) ρ' = .stuck by show (match ρ'[i]? with | some (.val d) => Res.ok d ρ' | some (.own d) => .ok d (ρ'.set i (.val d)) | _ => .stuck) = _; rw [z]] at q; exact False.elim q
      · simp only [if_neg hi] at q
        cases z : ρ'[i]? with
        | none => rw [z] at q; exact False.elim q
        | some t =>
          rw [z] at q
          cases t with
          | val d =>
            obtain ⟨v', e1, e2⟩ := R.val i d z
            rw [r] at e1; cases e1
            exact .inl (fin R q e2)
          | own d =>
            obtain ⟨v', e1, e2⟩ := R.own i d z
            rw [r] at e1; cases e1
            obtain ⟨b, u1, rfl, h4, rs⟩ := e2
            have hb : H b = none := by
              rcases R.adr i b _ z r with ⟨_, y⟩ | y
              · have := (List.getElem?_eq_some_iff.mp y).1
                omega
              · exact y
            exact .inl (fin R q ⟨b, rfl, hb, b, u1, rfl, h4, rs⟩)
          | _ => exact False.elim q
  · obtain ⟨hz, ha, h⟩ := outs_inv h
    exact (show pEx K md.cl md.T vs ss H E x (ρ'.take np) from h) cls d H' ⟨R.keep, R.thr⟩ R.gl.1 rx (outs_ok a rfl hl R hz ha)
theorem run_want {W : Nat} {en : En} {fd : FD} {ss : List Slot} {H : Hp} {vs : List V} {Q : VK} {E : XK} (hl : ss.length = fd.np) (hml : md.l = fd.md) (hm : fd.md.length = fd.np) (a : ArgsOk K fd.md H vs ss)
    (h : WantC (runF W en fd ss) (pOk K md.T vs ss H Q) (pEx K md.cl md.T vs ss H E)) :
    Want (ExO (ghost H vs ss) K md (fun cls d _ H => E cls d H)) (execSs W md.l en fd.body (ss ++ List.replicate (fd.ns - fd.np) .un)) (FlP (ghost H vs ss) K md H { nx := fun _ H' => Q .non H', rt := Lk Q }) := by
  unfold runF at h
  rw [if_pos hl] at h
  obtain ⟨e1, e2, e3⟩ := body_end (md := md) (Q := Q) (E := E) (by rw [hml]; exact a) hl (by rw [hml]; exact hm)
  rw [hml]
  cases z : execSs W fd.md en fd.body (ss ++ List.replicate (fd.ns - fd.np) .un) with
  | stuck => rw [z] at h; exact False.elim h
  | exc x ρ' => rw [z] at h; exact e3 x ρ' h
  | ok f ρ' =>
    rw [z] at h
    cases f with
    | nx => exact e1 ρ' h
    | ret e => exact e2 e ρ' h
    | brk => exact False.elim h
    | cnt => exact False.elim h
/-- A DEF: from its body's reading to its promise -/
theorem fn_den {x qual : Str} {st : Stmt} {f : Addr} {g : FuncData} {N ps : List Str} {k W : Nat} {en : En} {cl : List (Addr × Option Str)} {T : List (Addr × Str)} (fd : FD) (F : Fun K x qual st f g) (S : FnScope N ps (defScope st)) (hp : fd.np = ps.length) (hn : fd.ns = N.length) (hm : fd.md.length = fd.np)
    (hb : ∀ (cdv : Value) (A : Around) (outer : List PySem.Env) (s : Shared) (H : Hp) (E : XK), Room k (A.deeper (envOfC qual (defScope st) s.heap.objs.size f cdv)) → A.guards = some [] → L2.Takes (bodyCx P w K mg base N qual (defScope st) f cdv A outer s H E) (fun cls d _ H => E cls d H) → CodeAt K f cdv →
      BD W ⟨fd.md, cl, T, none, .non, none, none⟩ en (fun cls d _ H => E cls d H) (bodyCx P w K mg base N qual (defScope st) f cdv A outer s H E) (defBody st) fd.body) : FnG P w K mg base (k + 1) f g ps (spF K cl T fd.md (runF W en fd)) := by
  have lenOf : ∀ {vs H}, (∃ ss, ArgsOk K fd.md H vs ss ∧ ss.length = fd.np) → vs.length = ps.length := fun ⟨ss, a, e⟩ => by rw [Paired.length a.rep, e, hp]
  have look : ∀ {ss : List Slot} {Pp Ep}, WantC (runF W en fd ss) Pp Ep → ss.length = fd.np := fun {ss Pp Ep} h => by
    unfold runF at h
    split at h
    case isTrue z => exact z
    case isFalse => exact False.elim h
  refine fun_den F S (fun vs H Q E ⟨ss, a, _, h⟩ => lenOf ⟨ss, a, look h⟩) fun cdv A outer s H vs Q E room gd hcd ⟨ss, a, tb, h⟩ => ?_
  refine ⟨_, hb cdv A outer s H E room gd (L2.takes_of rfl rfl rfl rfl) hcd, ?_⟩
  have hl := look h
  have hpl : ps.length ≤ N.length := by have := congrArg List.length S.pre; rw [List.length_take] at this; omega
  have R0 : RS (ghost H vs ss) K ⟨fd.md, cl, T, none, .non, none, none⟩ (L2.start N vs) (ss ++ List.replicate (fd.ns - fd.np) .un) H := rs_start a ⟨tb, fun c q e => nomatch e⟩ (fun _ q => nomatch q) (Paired.length a.rep) (by omega)
  exact ⟨ghost H vs ss, _, R0, run_want hl rfl hm a h⟩
end
end Dn
/-! Den14: short words; the law's end -/
namespace Dn
open PySem PySem.Spec PyProof.Rows L2

section
variable {W : Nat} {md : Rm} {en : En} {Wx : L2.WX} {X : Cx} {x y : Str} {pos p1 p2 : Pos} {e a b c : Expr} {es : List Expr} {m ma mb mc : ME} {ms : List ME}
theorem dv (i : Nat) (hN : X.N[i]? = some x := by rfl) (hv : Vis X.env.scope x := by first | exact Or.inl rfl | exact Or.inr (Or.inl rfl) | exact Or.inr (Or.inr rfl)) (hd : (x == ("__debug__" : Str)) = false := by decide)
    (hcd : (x == ("__classdict__" : Str)) = false := by decide) : PD md en Wx X (.Name x pos) (.v i) := pd_v i hN hv hd hcd
theorem dg {u : Value} {d : PyData} {v : V} (hm : X.mg x = some u) (r : RelV v u) (rp : ∀ H, Rep X.K H v d) (hg : Gl X x := by rfl) (hd : (x == ("__debug__" : Str)) = false := by decide) : PD md en Wx X (.Name x pos) (.c d) := pd_glob hg hm r rp hd
theorem dgi {i : Int} (hm : ∃ t, X.mg x = some (.int i t)) (hg : Gl X x := by rfl) (hd : (x == ("__debug__" : Str)) = false := by decide) : PD md en Wx X (.Name x pos) (.c (.int i)) := by
  obtain ⟨t, hm⟩ := hm
  exact pd_glob (v := .int i) hg hm ⟨t, rfl⟩ (fun _ => .int i) hd
theorem dgs {i : Str} (hm : ∃ t, X.mg x = some (.str i t)) (hg : Gl X x := by rfl) (hd : (x == ("__debug__" : Str)) = false := by decide) : PD md en Wx X (.Name x pos) (.c (.str i)) := by
  obtain ⟨t, hm⟩ := hm
  exact pd_glob (v := .str i) hg hm ⟨t, rfl⟩ (fun _ => .str i) hd
theorem dapp (i : Nat) {apos : Pos} (he : PD md en Wx X e m) (hi : X.N[i]? = some x := by rfl) (hv : Vis X.env.scope x := by first | exact Or.inl rfl | exact Or.inr (Or.inl rfl) | exact Or.inr (Or.inr rfl)) (hs : swapsWith (.Call (.Attribute (.Name x p1) "append" apos) [e] [] p2) none pos.line X.env = pure false := by rfl)
    (hbase : attributeBase (.Name x p1) "append" X.env (eval (.Name x p1) X.env) = eval (.Name x p1) X.env := by rfl)
    (hfew : ((backTo p2 (starEach [e] X.env)).all (fun x => !x.1) && (backToKw p2 (keywordEach [] X.env)).all (fun x => x.1.isSome)
      && decide ([e].length + ([] : List Keyword).length + (if ([] : List Keyword).isEmpty then 0 else 1) < 30)) = true := by rfl)
    (hline : (apos.endLine == p2.line) = true := by rfl) (h1 : starEach [e] X.env = (false, eval e X.env) :: starEach [] X.env := by rfl) (hplain : (backTo p2 (starEach [] X.env)).any (·.1) = false := by rfl) (hd : (x == ("__debug__" : Str)) = false := by decide) (hcd : (x == ("__classdict__" : Str)) = false := by decide) :
    SD W md en Wx X (.Expr (.Call (.Attribute (.Name x p1) "append" apos) [e] [] p2) pos) (.app i m) := sd_app i hi hv he hs hbase hfew hline h1 hplain hd hcd
theorem dtr (ha : PD md en Wx X a ma) (he : ∀ whole, isTrue a X.env whole = (do let v ← whole; standAt a.pos; holding [v] (PySem.truthy v)) := by intro _; rfl) : TD md en Wx X a ma := td_truth ha he
theorem tdp (h : PW X e (tTr X.K md Wx (evalT md.l en m))) : TD md en Wx X e m := PW.pt h
theorem tand1 (h : TD md en Wx X a ma) : PW X (.BoolOp .And [a] pos) (tTr X.K md Wx (evalT md.l en ma)) := pw_and1 h
theorem tor1 (h : TD md en Wx X a ma) : PW X (.BoolOp .Or [a] pos) (tTr X.K md Wx (evalT md.l en ma)) := pw_or1 h
theorem dset (i : Nat) (hN : X.N.Nodup) (he : PD md en Wx X e m) (hi : X.N[i]? = some x := by rfl) (hx : Loc X.env.scope x := by first | exact Or.inl rfl | exact Or.inr rfl) (hs : swapsWith e (some (.Name x p1)) pos.line X.env = pure false := by rfl) (hf : X.fn x = true ∨ X.env.scope.names.lookup x = some .local := by first | exact Or.inl rfl | exact Or.inr rfl) :
    SD W md en Wx X (.Assign [.Name x p1] e pos) (.set i m) := sd_set i hN hi hx he hs hf
theorem dn (i : Nat) (hN : X.N.Nodup) (hi : X.N[i]? = some x := by rfl) (hx : Loc X.env.scope x := by first | exact Or.inl rfl | exact Or.inr rfl) (hf : X.fn x = true ∨ X.env.scope.names.lookup x = some .local := by first | exact Or.inl rfl | exact Or.inr rfl) : GD md X (.Name x pos) (.n i) := gd_n i hN hi hx hf
theorem dngs {is : List Nat} (i : Nat) (hN : X.N.Nodup) (h : NGs X es is) (hi : X.N[i]? = some x := by rfl) (hx : Loc X.env.scope x := by first | exact Or.inl rfl | exact Or.inr rfl) (hf : X.fn x = true ∨ X.env.scope.names.lookup x = some .local := by first | exact Or.inl rfl | exact Or.inr rfl)
    (hs : (assignEach (.Name x pos :: es) X.env).map (·.2) = assign (.Name x pos) X.env :: (assignEach es X.env).map (·.2) := by rfl) : NGs X (.Name x pos :: es) (i :: is) := ngs_cons i hN hi hx hf h hs
theorem daug (i : Nat) (o : BOp) (hN : X.N.Nodup) (he : PD md en Wx X e m) (hi : X.N[i]? = some x := by rfl) (hx : Loc X.env.scope x := by first | exact Or.inl rfl | exact Or.inr rfl) (hf : X.fn x = true ∨ X.env.scope.names.lookup x = some .local := by first | exact Or.inl rfl | exact Or.inr rfl) : SD W md en Wx X (.AugAssign (.Name x p1) (bop o) e pos) (.aug i o m) := sd_aug i o hN hi hx he hf
end
/-- a level's room, in units -/
theorem room_un {n k : Nat} {A : Around} (h : Room k A) (hn : n ≤ 200) : A.units + n < cLine := by have := h.un; omega
/-! ### the law's end -/
theorem reps_ints {K : PySem.W.Frag} {H : Hp} : ∀ ns : List Int, Reps K H (ns.map V.int) (ns.map PyData.int)
  | [] => .nil
  | n :: ns => .cons (.int n) (reps_ints ns)
theorem fn_zero {P : Program} {w : World} {K : PySem.W.Frag} {mg : Str → Option Value} {base : Heap} {f : Addr} {g : FuncData} {ps : List Str} {cl : List (Addr × Option Str)} {Tb : List (Addr × Str)} {md : List Bool} {W i : Nat} {T : List FD} : FnG P w K mg base 0 f g ps (spF K cl Tb md (callF W T 0 i)) :=
  ⟨fun _ _ _ _ ⟨_, _, _, z⟩ => False.elim z, fun _ _ _ _ _ _ _ _ _ _ _ _ _ _ ⟨_, _, _, z⟩ => False.elim z⟩
/-- the script told in the abstract heap, unless it is an object of the module -/
def told (K : PySem.W.Frag) (a : Addr) (o : Obj) (xs : List V) : Hp := fun b => match K.lookup a with
  | some _ => none
  | none => if b = a then some (.frz o (.lst xs)) else none
theorem told_inv {K : PySem.W.Frag} {a b : Addr} {o : Obj} {xs : List V} {u : HO} (h : told K a o xs b = some u) : b = a ∧ u = .frz o (.lst xs) ∧ K.lookup a = none := by
  unfold told at h
  cases z : K.lookup a with
  | some o' => rw [z] at h; cases h
  | none =>
    rw [z] at h
    by_cases e : b = a
    · have h : (if b = a then some (HO.frz o (.lst xs)) else none) = some u := h
      rw [if_pos e] at h
      cases h
      exact ⟨e, rfl, rfl⟩
    · have h : (if b = a then some (HO.frz o (.lst xs)) else none) = some u := h
      rw [if_neg e] at h
      cases h
theorem told_fz {K : PySem.W.Frag} {a : Addr} {vs : List Value} {ns : List Int} {h : Heap} (KX : K.In h) (ha : h.get? a = some { cls := .type "list", data := .seq vs.toArray }) (hi : IntsAre vs ns) (hl : ns.length ≤ sizeLine) :
    FzL K (told K a { cls := .type "list", data := .seq vs.toArray } (ns.map .int)) a (ns.map .int) := by
  cases z : K.lookup a with
  | none =>
    refine .inl ⟨{ cls := .type "list", data := .seq vs.toArray }, ?_⟩
    unfold told
    rw [z]
    exact if_pos rfl
  | some o =>
    have e := KX a o z
    rw [ha] at e
    cases e
    exact .inr ⟨_, vs.toArray, _, z, rfl, rfl, rfl, by rw [List.size_toArray, hi.length]; exact hl, by simpa using vals_ints hi⟩
theorem law_end {P : Program} {w : World} {K : PySem.W.Frag} {mg mb : Str → Option Value} {k : Nat} {fa a : Addr} {g : FuncData} {x : Str} {md : List Bool} {cl : List (Addr × Option Str)} {f : List Slot → CRes} {s : Shared} {vs : List Value} {ns : List Int}
    (KX : K.In s.heap) (nsM : s.heap.Ns mainGlobals mg) (nsB : s.heap.Ns builtinsNs mb) (boot : ∀ y : Str, y ≠ "__name__" → mb y = bootBuiltins y) (lim : s.heap.NoLimit) (noG : s.gens = #[])
    (ha : s.heap.get? a = some { cls := .type "list", data := .seq vs.toArray }) (hi : IntsAre vs ns) (hl : ns.length ≤ sizeLine) (room : Room k callerA)
    (F : ∀ base : Heap, K.In base → base.Ns mainGlobals mg → FnG P w K mg base k fa g [x] (spF K cl [] md f)) (binds : ∀ (s : Shared) (u : Value), BindsTo s g ⟨[u], []⟩ [(x, u)])
    (law : ∃ out, f [.val (.list (ns.map .int))] = .ok (.val (.bool true)) out) :
    codeAny (model P w) callerA (.call (.ref fa) ⟨[.ref a], []⟩) (fun r s' => r = .ok (.ret (.bool true)) ∧ OldK s.heap s'.heap ∧ s'.os = s.os ∧ AllBare s'.gens) s := by
  let o : Obj := { cls := .type "list", data := .seq vs.toArray }
  let H : Hp := told K a o (ns.map .int)
  have fz : FzL K H a (ns.map .int) := told_fz KX ha hi hl
  have hok : HOk P w H s.heap := fun b u z => by
    obtain ⟨rfl, rfl, _⟩ := told_inv z
    exact ⟨ha, by rw [List.length_map]; exact hl, vs, _, vals_ints hi, ha⟩
  -- what is no told script stands in the base
  have free : ∀ {b : Addr} {ob : Obj}, s.heap.get? b = some ob → (b = a → K.lookup a ≠ none) → (hidT s.heap H).get? b = some ob := fun {b ob} e n => hidT_get e (by
    cases q : H b with
    | none => rfl
    | some u =>
      obtain ⟨e1, _, e2⟩ := told_inv q
      exact absurd e2 (n e1))
  have inB : K.In (hidT s.heap H) := fun b ob e => free (KX b ob e) fun z => by
    rw [← z, e]
    simp
  have nsOf : ∀ {b : Addr} {m : Str → Option Value}, s.heap.Ns b m → (hidT s.heap H).Ns b m := fun {b m} ⟨ob, es, ep, e, d, r⟩ => by
    refine ⟨ob, es, ep, free e fun z => ?_, d, r⟩
    rw [z, ha] at e
    cases e
    have d : Data.seq vs.toArray _ = Data.dict es ep := d
    cases d
  have mod : Mod K mg (hidT s.heap H) := ⟨inB, nsOf nsM, ⟨mb, nsOf nsB, boot⟩, lim.elim fun mc q => ⟨mc, nsOf q.1, q.2⟩⟩
  have env0 : Env0 P w K mg (hidT s.heap H) callerA [] s H :=
    ⟨rfl, mod, fun b ob e => of_hidT e, Nat.le_of_eq (hidT_size _ _), trivial, fun b z => absurd z (by show b ∉ ([] : List Addr); simp), hok, .of_eq noG⟩
  have ask : spF K cl [] md f [.ref a] H (fun v _ => v = .bl true) fun _ _ _ => False := by
    refine ⟨[.val (.list (ns.map .int))], ⟨.cons (.lst fz (reps_ints ns)) .nil, fun i j b d e h1 => ?_, fun i d h1 => ?_⟩, ?_, ?_⟩
    · match i with
      | 0 => simp at h1
      | i + 1 => simp at h1
    · match i with
      | 0 => simp at h1
      | i + 1 => simp at h1
    · exact fun p hp => absurd hp (by simp)
    · obtain ⟨out, e⟩ := law
      rw [e]
      intro v H' _ _ r _
      cases (show Rep K H' v (.bool true) from r)
      rfl
  refine codeAny_mono ((F _ inB (nsOf nsM)).run callerA [] s H ⟨[.ref a], []⟩ [.ref a] [.ref a] _ _ room rfl env0 (binds s (.ref a)) (.cons rfl .nil) ask) fun r s' z => ?_
  cases r with
  | error e =>
    obtain ⟨_, _, _, _, _, _, _, _, _, _, _, _, q⟩ := z
    exact False.elim q
  | ok fl =>
    cases fl with
    | next => exact False.elim z
    | brk => exact False.elim z
    | cont => exact False.elim z
    | ret u =>
      obtain ⟨v, H', os, bare, un, hok', rv, e⟩ := z
      cases (show v = .bl true from e)
      cases (show u = Value.bool true from rv)
      refine ⟨rfl, OldK.of_keep fun b ob e => ?_, os, bare⟩
      cases q : H b with
      | none => exact un.keep b ob e q (fun z => absurd z (by show b ∉ ([] : List Addr); simp)) (by simp)
      | some u =>
        obtain ⟨rfl, rfl, _⟩ := told_inv q
        have old := (hok _ _ q).1
        rw [e] at old
        cases old
        exact (hok' _ _ (un.frzs _ _ _ q)).1
theorem law_walk {l : PySem.W.OpenLaw} {n k : Nat} {q : Program} {loose : List Str} {XP : (Str → Option Value) → Heap → Prop} {YP : World → Heap → Prop} {d : DefRec} {K : Params → PySem.W.Frag} {x : Str} {md : List Bool} {cl : List (Addr × Option Str)} {f : List Slot → CRes}
    (hn : l.most = some n) (hn2 : n ≤ sizeLine) (hdf : d.params.defaults = []) (room : Room k callerA) (hY : ∀ (w : World) (h : Heap), YP w h → (K w.params).In h)
    (law : ∀ ns : List Int, ns.length ≤ n → ∃ out, f [.val (.list (ns.map .int))] = .ok (.val (.bool true)) out)
    (F : ∀ (w : World) (mg : Str → Option Value) (fa : Addr) (h : Heap), (K w.params).In h → h.Ns mainGlobals mg → mg d.name = some (.ref fa) →
      ∃ g : FuncData, (∀ (s : Shared) (u : Value), BindsTo s g ⟨[u], []⟩ [(x, u)]) ∧ ∀ base : Heap, (K w.params).In base → base.Ns mainGlobals mg → FnG l.prog w (K w.params) mg base k fa g [x] (spF (K w.params) cl [] md f)) :
    PySem.W.WalkO q loose XP YP l.row.toRowW d [] (fun f vs => PySem.call f vs) :=
  Att.attach_call hn hdf fun w s₀ s₁ mg mb fa o pm cd doc a vs ns G Y ho hd hcd hmg hobj hints hlen hg => by
    obtain ⟨g, binds, Fs⟩ := F w mg fa _ (hY w _ Y) G.T.g hmg
    exact law_end (hY w _ Y) G.T.g G.T.b G.T.builtins G.T.nolimit hg hobj hints (Nat.le_trans hlen hn2) room Fs binds (law ns hlen)
end Dn
/-! Den16: own exceptions made and raised -/
namespace Dn
open PySem PySem.Spec PyProof.Rows L2

/-- the text of such an __init__: super().__init__('..'), perhaps self.f = p -/
inductive IniBody : Option Str → List Str → List Stmt → Prop
  | zero {z : Str} {j : Nat} {p0 p1 p2 p3 p4 p5 : Pos} (hl : (p2.endLine == p4.line) = true) : IniBody none ["self"] [.Expr (.Call (.Attribute (.Call (.Name "super" p0) [] [] p1) "__init__" p2) [.Constant (.str z) j p3] [] p4) p5]
  | one {z f x : Str} {j : Nat} {p0 p1 p2 p3 p4 p5 q1 q2 q3 q4 : Pos} (hl : (p2.endLine == p4.line) = true) (hx : x ≠ "self") (hxd : (x == ("__debug__" : Str)) = false) : IniBody (some f) ["self", x] [.Expr (.Call (.Attribute (.Call (.Name "super" p0) [] [] p1) "__init__" p2) [.Constant (.str z) j p3] [] p4) p5, .Assign [.Attribute (.Name "self" q1) f q2] (.Name x q3) q4]
/-- what the written part says of such a class at C, whose __init__ stands at fI -/
structure XTxt (prog : Program) (fo : Option Str) (ps : List Str) (name qual : Str) (st : Stmt) : Prop where
  body : IniBody fo ps (defBody st)
  hp : ∃ ar, ((defArgs st).posonlyargs ++ (defArgs st).args).head? = some ar ∧ ar.arg = "self"
  bnd : ∀ (kV doc pm : Value) (an : Option Addr) (cdv ct : Value) (cc : Addr) (us : List Value), us.length = ps.length → bindArgs (PySem.W.ksFn name qual (defArgs st) (defBody st) (defScope st) .none kV doc pm an cdv ct cc) ⟨us, []⟩ = pure (ps.zip us)
  cell : ∀ x ∈ (defScope st).names, x.2 ≠ .cell
  locs : ∀ x ∈ ps, (defScope st).names.lookup x = some .local
  ks : (defScope st).names.lookup ("super" : Str) = some .globalImplicit
  kc : (defScope st).names.lookup ("__class__" : Str) = some .free
  co : (defScope st).isCoroutine = false
  gen : (defScope st).isGenerator = false
  kd : (defScope st).kind = .function
  top : (prog.main.scope.names.lookup ("super" : Str)).isSome = false
structure XIni (K : PySem.W.Frag) (prog : Program) (C fI : Addr) (fo : Option Str) (ps : List Str) (name qual : Str) (st : Stmt) : Prop extends XTxt prog fo ps name qual st where
  lk : ∃ (oc : Value) (od : Option Addr) (kV doc pm : Value) (an : Option Addr) (cda : Addr) (ct : Value) (cc : Addr) (osl : Array (Option Value)),
    K.lookup fI = some ⟨oc, od, .func (PySem.W.ksFn name qual (defArgs st) (defBody st) (defScope st) .none kV doc pm an (.ref cda) ct cc), osl⟩ ∧ PySem.W.codeIn K (.ref cda) qual = true ∧
    (∃ (ccl : Value) (cdd : Option Addr) (vs : Array Value) (ccs : Array (Option Value)) (file : Str) (tf : Tok), K.lookup cda = some ⟨ccl, cdd, .fields vs, ccs⟩ ∧ vs[2]? = some (.str file tf) ∧ ((prog.main.file : Str) == file) = true) ∧
    ∃ (cl : Value) (cld : Option Addr) (csl : Array (Option Value)), K.lookup cc = some ⟨cl, cld, .cell (some (.ref C)), csl⟩
  supG : PySem.W.nsIn K mainGlobals "super" = some none
  opq : PySem.W.nsIn K cStatics "thirdparty.any" = some none
  sup : PySem.W.ks_superIn K C C "__init__" = some (some (.builtin "ValueError.__init__"))
  subB : PySem.W.subIn K (.ref C) (.type "ValueError") = some true
  mro : PySem.W.mroIn K C (.ref C) = some true
  ox : OexC K C
  fld : ∀ f, fo = some f → PySem.W.findIn K (.ref C) f = some none
  iC : PySem.W.findIn K (.ref C) "__init__" = some (some (.ref fI))
  tI : PySem.W.typeIn K (.ref fI) = some (.type "function")
section
variable {prog : Program} {w : World} {A : Around} {E : Value → Shared → Prop} {R : Result → Shared → Prop} {h hp : Heap} {g : Array GenState} {d : Drawn} {t : Nat} {os : OsState} {K : PySem.W.Frag} {C e t0 : Addr}
/-- ValueError.__init__ bound to e, called with texts -/
theorem kxs_run {u : Addr} {rest : List Value} {Q : Value → Shared → Prop} (X : K.In h) (T : OexC K C) (he : h.get? e = some (HandSPX.excO C t0)) (hu : h.get? u = some (PySem.W.kxs_mw "ValueError.__init__" e)) (hz : rest.length ≤ sizeLine)
    (hq : ∀ h', (∀ b o, b ≠ e → h.get? b = some o → h'.get? b = some o) → h'.get? e = some (HandSPX.excO C h.objs.size) → Q .none ⟨h', g, d, t, os⟩) : wpAny (model prog w) A (call (.ref u) rest) Q E ⟨h, g, d, t, os⟩ := by
  obtain ⟨nm, q, N, bs, bm, sn, sub, ab, col, dd, k0, k1, k2, k3, k5, hC, hbm⟩ := T.cls
  refine wpAny_call (codeAny_of_tree ?_)
  show wpAny _ A.in1 (callAny (.ref u) ⟨rest, []⟩) _ _ _
  simp only [callAny]
  refine wpAny_bind (wpAny_load hu ?_)
  refine PySem.W.KFB.if_so (show (Value.type "method-wrapper" == Value.type "method" || Value.type "method-wrapper" == Value.type "builtin_function_or_method" || Value.type "method-wrapper" == Value.type "method-wrapper") = true by decide) ?_
  refine wpAny_bind (PySem.W.check_bound_init F.excBase_ValueError.toExcCallFacts (X _ _ hC) he rfl ?_)
  refine wpAny_bind (wpAny_pure (wpAny_pure ?_))
  refine ⟨plainId_quiet F.excBase_ValueError.init.plain _, codeAny_builtin F.excBase_ValueError.initEntry ?_⟩
  exact PySem.W.exc_init_tree (cls := .ref C) (t0 := t0) (dv := none) (c2 := .none) (c3 := .none) (b4 := .bool false) he hz fun h' k e' _ => hq h' k e'

theorem ini_first {fI cc cda L : Addr} {qual : Str} {sc : Scope} {m mg mb : Str → Option Value} {z : Str} {j : Nat} {p0 p1 p2 p3 p4 p5 : Pos} {body : List Stmt} {fo : Option Str} {ps : List Str} {name : Str} {st : Stmt} {fd : FuncData} {ar : Arg} {oc ccl cl : Value} {od cdd cld : Option Addr} {vs : Array Value} {osl ccs csl : Array (Option Value)} {file : Str} {tf : Tok}
    (hl : (p2.endLine == p4.line) = true) (X : K.In h) (T : XIni K prog C fI fo ps name qual st) (he : h.get? e = some (HandSPX.excO C t0)) (hsc : sc = defScope st) (hn : h.Ns L m) (hG : h.Ns mainGlobals mg) (hB : h.Ns builtinsNs mb) (hmb : mb "super" = some (.type "super"))
    (hf : K.lookup fI = some ⟨oc, od, .func fd, osl⟩) (hp : (fd.params.posonlyargs ++ fd.params.args).head? = some ar) (har : ar.arg = "self") (hv : m "self" = some (.ref e))
    (hcode : K.lookup cda = some ⟨ccl, cdd, .fields vs, ccs⟩) (hvs : vs[2]? = some (.str file tf)) (hfile : ((prog.main.file : Str) == file) = true) (hcell : K.lookup cc = some ⟨cl, cld, .cell (some (.ref C)), csl⟩)
    {Q : Flow → Shared → Prop} (hq : ∀ h' t', (∀ b o, b ≠ e → h.get? b = some o → h'.get? b = some o) → (∃ t1, h'.get? e = some (HandSPX.excO C t1)) → Q .next ⟨h', g, d, t', os⟩) :
    _root_.PySem.wpAt (model prog w) A (.func body (PySem.W.ksEnv qual sc L fI (.ref cda) cc)) (exec (.Expr (.Call (.Attribute (.Call (.Name "super" p0) [] [] p1) "__init__" p2) [.Constant (.str z) j p3] [] p4) p5) (PySem.W.ksEnv qual sc L fI (.ref cda) cc)) Q E ⟨h, g, d, t, os⟩ := by
  subst hsc
  obtain ⟨nm, q, N, bs, bm, sn, sub, ab, col, dd, k0, k1, k2, k3, k5, hC, hbm⟩ := T.ox.cls
  have hcl : PySem.W.clsIn K C = some { name := nm, bases := bs, mro := .ref C :: bm, ns := N, qualname := q, hasDict := true, slotNames := sn, subclasses := sub, abstract := ab, collection := col, hasDel := false } := by unfold PySem.W.clsIn; rw [hC] <;> rfl
  have hsup := T.sup
  unfold PySem.W.ks_superIn at hsup
  rw [hcl, Option.bind_some] at hsup
  have hself : ("self" : Str) ∈ ps := by
    have b := T.body
    generalize defBody st = bb at b
    cases b <;> simp
  have heC : e ≠ C := fun z => by
    rw [z, X _ _ hC] at he
    cases he
  refine ks_wpAt_Expr_any ?_ (by simp [interactive, T.kd]) (by rfl)
  refine ks_wpAt_MethodCall (pl := do return (← importBound (.Call (.Name "super" p0) [] [] p1) (PySem.W.ksEnv qual (defScope st) L fI (.ref cda) cc)).getD true) ?_ (by
    have hpos : methodCallPos true (.Call (.Name "super" p0) [] [] p1) (PySem.W.ksEnv qual (defScope st) L fI (.ref cda) cc) p2 p4 = pure p4 := by unfold methodCallPos; simp [hl]
    show (do
      let ov ← attributeBase (.Call (.Name "super" p0) [] [] p1) "__init__" (PySem.W.ksEnv qual (defScope st) L fI (.ref cda) cc) (eval (.Call (.Name "super" p0) [] [] p1) (PySem.W.ksEnv qual (defScope st) L fI (.ref cda) cc))
      standAt p2.atName
      let (f, first) ← holding [ov] (getMethod ov "__init__" _)
      let callPos ← methodCallPos true (.Call (.Name "super" p0) [] [] p1) (PySem.W.ksEnv qual (defScope st) L fI (.ref cda) cc) p2 p4
      callWith callPos f first _ _) = _
    rw [hpos]
    rfl)
  refine ks_wpAt_super_base (env := PySem.W.ksEnv qual (defScope st) L fI (.ref cda) cc) T.ks T.kc rfl rfl (X _ _ hf) rfl hp rfl (X _ _ hcode) rfl hvs hfile T.top ?_
  refine PySem.W.ks_loadName_global T.kd T.ks (PySem.Calls.loadGlobal_builtin (env := PySem.W.ksEnv qual (defScope st) L fI (.ref cda) cc) hG (PySem.W.mg_none_of X hG T.supG) hB hmb ⟨rfl, ?_⟩)
  refine wpAny_loadName_free T.kd T.kc rfl ⟨_, X _ _ hcell, rfl⟩ ?_
  rw [har]
  refine wpAny_loadName_local T.kd (T.locs "self" hself) hn hv ?_
  refine ks_wpAny_isType_cls (X _ _ hC) rfl ⟨rfl, ?_⟩
  refine ks_wpAny_call_super (X _ _ hC) rfl he rfl (fun c z => by cases z) (PySem.W.looks_mroIn X T.mro) fun h1 e1 k1 => ?_
  have X1 : K.In h1 := fun a o z => k1 _ _ (X a o z)
  have he1 := k1 _ _ he
  have J1 : PySem.W.InstAt h1 e (HandSPX.excO C t0) C none := ⟨he1, rfl, rfl, trivial⟩
  refine PySem.W.kxs_getMethod PySem.W.kxs_ValueError e1 (PySem.W.looks_opaque X1 T.opq) (fun A Q E s k q => wpAny_bind ((PySem.W.looks_clsIn X1 hcl) A _ E s k (wpAny_pure q))) rfl X1 hsup (J1.type.andThen (PySem.W.looks_subIn X1 T.subB)) heC rfl ?_
  refine PySem.W.kxs_callWith (i := "ValueError.__init__") (x := e) (by rfl) ?_
  have hu : (h1.push (PySem.W.kxs_mw "ValueError.__init__" e)).get? h1.objs.size = some (PySem.W.kxs_mw "ValueError.__init__" e) := Heap.get?_push_at rfl rfl
  show wpAny _ _ (evalArgs (.ref h1.objs.size) true [(false, eval (.Constant (.str z) j p3) (PySem.W.ksEnv qual (defScope st) L fI (.ref cda) cc))] []) _ _ _
  refine PySem.Calls.evalArgs_plain (PySem.Calls.spliced_cons (wpAny_Constant_str (PySem.Calls.spliced_nil ⟨hu, ?_⟩)))
  refine kxs_run (fun a o z => Heap.get?_push_of_some _ (X1 a o z)) T.ox (Heap.get?_push_of_some _ he1) hu (by show 1 ≤ sizeLine; rw [sizeLine_eq]; omega) fun h2 k2 e2 => ?_
  exact hq _ _ (fun b o hb ho => k2 b o hb (Heap.get?_push_of_some _ (k1 b o ho))) ⟨_, e2⟩
/-- what stands behind the whole __init__ -/
def IniEnd (hp h' : Heap) (C e : Addr) (fo : Option Str) (us : List Value) : Prop := (∀ b o, b ≠ e → hp.get? b = some o → h'.get? b = some o) ∧ match fo with
  | none => us = [] ∧ ∃ t1, h'.get? e = some (HandSPX.excO C t1)
  | some f => ∃ u dx t1, us = [u] ∧ hp.objs.size ≤ dx ∧ dx ≠ e ∧ h'.get? e = some ({ cls := .ref C, dict := some dx, data := .fields #[.ref t1, .none, .none, .none, .bool false, .none] } : Obj) ∧ h'.Ns1 dx fun y => if y = f then some u else none
theorem ini_run {fI : Addr} (hKe : ∀ o, K.lookup e ≠ some o) {mg mb : Str → Option Value} {fo : Option Str} {ps : List Str} {name qual : Str} {st : Stmt} {us : List Value} (X : K.In hp) (T : XIni K prog C fI fo ps name qual st) (he : hp.get? e = some (HandSPX.excO C t0)) (lim : hp.NoLimit) (hG : hp.Ns mainGlobals mg) (hB : hp.Ns builtinsNs mb)
    (hmb : mb "super" = some (.type "super")) (hd : A.depth < recursionLimit) (hu : us.length + 1 = ps.length) (q : ∀ h' t', IniEnd hp h' C e fo us → R (.ok (.ret .none)) ⟨h', g, d, t', os⟩) : codeAny (model prog w) A (.call (.ref fI) ⟨.ref e :: us, []⟩) R ⟨hp, g, d, t, os⟩ := by
  obtain ⟨oc, od, kV, doc, pm, an, cda, ct, cc, osl, hf, hcd, ⟨ccl, cdd, vs, ccs, file, tf, hcode, hvs, hfile⟩, cl, cld, csl, hcell⟩ := T.lk
  obtain ⟨ar, hhp, har⟩ := T.hp
  obtain ⟨nm, q', N, bs, bm, sn, sub, ab, col, dd, k0, k1, k2, k3, k5, hC, hbm⟩ := T.ox.cls
  have hcl : PySem.W.clsIn K C = some { name := nm, bases := bs, mro := .ref C :: bm, ns := N, qualname := q', hasDict := true, slotNames := sn, subclasses := sub, abstract := ab, collection := col, hasDel := false } := by unfold PySem.W.clsIn; rw [hC] <;> rfl
  have hbind : BindsTo ⟨hp, g, d, t, os⟩ (PySem.W.ksFn name qual (defArgs st) (defBody st) (defScope st) .none kV doc pm an (.ref cda) ct cc) ⟨.ref e :: us, []⟩ (ps.zip (.ref e :: us)) := .of_eq (T.bnd _ _ _ _ _ _ _ _ (by simpa using hu))
  refine ks_codeAny_call_defAt hd (X _ _ hf) rfl lim (PySem.W.codeRec_of X hcd) rfl hbind T.cell (fun x hx => T.locs _ (List.of_mem_zip (show (x.1, x.2) ∈ _ from hx)).1) (fun h0 hns k0' => ?_) T.co T.gen T.kd
  have X0 : K.In h0 := fun a o z => k0' _ _ (X a o z)
  have he0 := k0' _ _ he
  have hlt : hp.objs.size ≠ e := Nat.ne_of_gt (Heap.lt_size he)
  show _root_.PySem.wpAt (model prog w) _ (.func (defBody st) (PySem.W.ksEnv qual (defScope st) hp.objs.size fI (.ref cda) cc)) (execs (defBody st) (PySem.W.ksEnv qual (defScope st) hp.objs.size fI (.ref cda) cc)) _ _ _
  have hbody := T.body
  generalize hst : defBody st = bb at hbody
  cases hbody with
  | zero hl =>
    match us, hu with
    | [], _ =>
    refine ks_wpAt_execs_cons (ini_first hl X0 T he0 rfl hns (hG.keeps k0') (hB.keeps k0') hmb hf hhp har (by simp) hcode hvs hfile hcell fun h1 t1 kk e1 => ?_)
    refine wpAt_of_wpAny (wpAny_execs_nil ?_)
    exact q _ _ ⟨fun b o hb ho => kk b o hb (k0' b o ho), rfl, e1⟩
  | @one z f x j _ _ _ _ _ _ _ _ _ _ hl hx hxd =>
    match us, hu with
    | [u], _ =>
    have hself : (((["self", x] : List Str).zip [Value.ref e, u]).reverse.lookup ("self" : Str)) = some (Value.ref e) := by
      have z : (("self" : Str) == x) = false := by rw [beq_eq_false_iff_ne]; exact fun q => hx q.symm
      simp [List.lookup, z]
    have hpar : (((["self", x] : List Str).zip [Value.ref e, u]).reverse.lookup x) = some u := by simp [List.lookup]
    refine ks_wpAt_execs_cons (ini_first hl X0 T he0 rfl hns (hG.keeps k0') (hB.keeps k0') hmb hf hhp har hself hcode hvs hfile hcell fun h1 t1 kk e1 => ?_)
    obtain ⟨tt, e1⟩ := e1
    have X1 : K.In h1 := fun a o z => by
      exact kk _ _ (fun y => hKe o (by rw [← y]; exact z)) (X0 a o z)
    have hns1 : h1.Ns hp.objs.size (fun y => ((["self", x] : List Str).zip [Value.ref e, u]).reverse.lookup y) := by
      obtain ⟨o, es, ep, z, r⟩ := hns
      exact ⟨o, es, ep, kk _ _ hlt z, r⟩
    refine ks_wpAt_execs_cons (ks_wpAt_Assign_Attr ?_ (by rfl))
    refine wpAt_of_wpAny (wpAny_Name (wpAny_loadName_local (env := PySem.W.ksEnv qual (defScope st) hp.objs.size fI (.ref cda) cc) T.kd (T.locs _ (by simp)) hns1 (v := u) hpar ?_) hxd)
    refine wpAny_Name (wpAny_loadName_local (env := PySem.W.ksEnv qual (defScope st) hp.objs.size fI (.ref cda) cc) T.kd (T.locs "self" (by simp)) hns1 (v := .ref e) hself ?_) (by decide)
    refine PySem.W.set_plain X1 (ox := HandSPX.excO C tt) (od := none) ⟨e1, rfl, rfl, trivial⟩ T.ox.sa ?_
    refine PySem.HandSPX.exc_osa X1 e1 hcl (show PySem.HandSPX.refsVE (.ref C :: bm) = true from hbm) rfl (T.fld _ rfl) fun h2 tk dx k2 dn dne hx hn => ?_
    refine wpAt_of_wpAny (wpAny_execs_nil ?_)
    refine q _ _ ⟨fun b o hb ho => k2 b o hb (kk b o hb (k0' b o ho)), u, dx, tt, rfl, ?_, dne, hx, hn⟩
    obtain ⟨o, es, ep, z, r⟩ := hns1
    exact Nat.le_trans (Nat.le_of_lt (Heap.lt_size z)) dn
end
section
variable {X : Cx}
/-- such a call: what is wished of the exception -/
def QX (K : PySem.W.Frag) (C : Addr) (fo : Option Str) (vs : List V) (H : Hp) (Q : XK) : Prop := match fo with
  | none => vs = [] ∧ Q (.ref C) none H
  | some f => ∃ v, vs = [v] ∧ ∀ d, H d = none → Q (.ref C) (some d) (upd H d (.xd [(f, v)]))
theorem pmk_ini {x : Str} {C fI : Addr} {fo : Option Str} {ps : List Str} {name qual : Str} {st : Stmt} {p pos : Pos} {es : List Expr} {ta : TA} {k : Nat} (T : XIni X.K X.prog C fI fo ps name qual st) (hr : Room k X.A) (hg : Gl X x) (hm : X.mg x = some (.ref C)) (hl : es.length + 1 = ps.length)
    (ha : ∀ (pins : List (Addr × Obj)) (s : Shared) (σ : L2.St) (H : Hp) (Q : List V → Hp → Prop), L2.Inv X pins σ H s → ta σ H Q → (∀ vs H', Q vs H' → vs.length + 1 = ps.length) → ∀ (f : Value) (Qa : Value → Shared → Prop), (∀ us vs H1 s1, L2.Inv X pins σ H1 s1 → Vals vs us → Q vs H1 → wpAny (model X.prog X.w) X.A (call (.ref C) us) Qa X.xe s1) →
      wpAny (model X.prog X.w) X.A (callWith pos (.ref C) [] (backTo pos (starEach es X.env)) []) Qa X.xe s)
    (hdb : (x == ("__debug__" : Str)) = false := by decide) : L2.PMk X (.Call (.Name x p) es [] pos) (fun σ H Q => ta σ H fun vs H1 => vs.length + 1 = ps.length ∧ QX X.K C fo vs H1 Q) := by
  intro pins s σ H Q I h
  obtain ⟨nm, q', N, bs, bm, sn, sub, ab, col, dd, k0, k1, k2, k3, k5, hC, hbm⟩ := T.ox.cls
  refine wpAny_Call_Name_kw (ld_glob I hg hm ?_ hdb)
  refine ha pins _ σ H _ I h (fun vs H' z => z.1) (.ref C) _ fun us vs H1 s1 I1 r1 q1 => ?_
  obtain ⟨q0, q1⟩ := q1
  obtain ⟨hp, g, dr, tk, os⟩ := s1
  have hlen : us.length + 1 = ps.length := by rw [← r1.length]; exact q0
  have hps : ps.length ≤ 2 := by
    have b := T.body
    generalize defBody st = bb at b
    cases b <;> simp
  have hsz : us.length ≤ sizeLine := by rw [sizeLine_eq]; omega
  have kk : ∀ b o, hp.get? b = some o → ((hp.push (PySem.W.kdv_tup us)).push (PySem.HandSPX.excO C hp.objs.size)).get? b = some o := fun b o e => Heap.get?_push_of_some _ (Heap.get?_push_of_some _ e)
  have hget : ((hp.push (PySem.W.kdv_tup us)).push (PySem.HandSPX.excO C hp.objs.size)).get? (hp.objs.size + 1) = some (PySem.HandSPX.excO C hp.objs.size) := by heap_get
  have KX : X.K.In hp := I1.kIn
  have KX2 : X.K.In ((hp.push (PySem.W.kdv_tup us)).push (PySem.HandSPX.excO C hp.objs.size)) := fun a o z => kk _ _ (KX a o z)
  have md : Mod X.K X.mg hp := ⟨KX, I1.mod.glob.keeps I1.bk, by obtain ⟨mb, z1, z2⟩ := I1.mod.blt; exact ⟨mb, z1.keeps I1.bk, z2⟩, I1.nolimit⟩
  obtain ⟨mb, hB, hboot⟩ := md.blt
  have hne : hp.get? (hp.objs.size + 1) = none := by
    cases z : hp.get? (hp.objs.size + 1) with
    | none => rfl
    | some o => exact absurd (Nat.lt_trans (Nat.lt_succ_self _) (Heap.lt_size z)) (Nat.lt_irrefl _)
  refine wpAny_call (PySem.HandSPX.call_own F.excBase_ValueError (fun Y => PySem.HandSPX.refsVE_contains Y bm hbm) (KX _ _ hC) (PySem.W.looks_findIn KX T.iC) (fun self => PySem.W.bind_fn KX self T.tI) hsz ?_)
  refine ini_run (mg := X.mg) (mb := mb) (t0 := hp.objs.size) (fun o z => by have := KX _ _ z; rw [hne] at this; cases this) KX2 T hget (md.nolimit.keeps kk) (md.glob.keeps kk) (hB.keeps kk) ((hboot _ (by decide)).trans (by decide +kernel)) (by have := hr.dp; rw [make_depth]; omega) hlen fun h' t' hend => ?_
  refine ⟨rfl, ?_⟩
  show L2.MkP X pins σ Q (.ref (hp.objs.size + 1)) ⟨h', g, dr, t', os⟩
  obtain ⟨k3', hend⟩ := hend
  have keepAll : ∀ b o, hp.get? b = some o → h'.get? b = some o := fun b o z => k3' b o (fun y => by rw [y, hne] at z; cases z) (kk b o z)
  have nH : H1 (hp.objs.size + 1) = none := I1.hok.fresh (Nat.le_succ _)
  cases fo with
  | none =>
    obtain ⟨e1, t1, e2⟩ := hend
    obtain ⟨_, q1⟩ := q1
    exact ⟨_, _, _, ⟨hp, g, dr, tk, os⟩, H1, .ref C, none, rfl, I1, keepAll, hne, e2, ⟨rfl, rfl⟩, rfl, rfl, nH, rfl, I1.bare, raises_own T.ox.exC T.ox.tyC, q1⟩
  | some f =>
    obtain ⟨u, dx, t1, e1, dn, dne, e2, hns⟩ := hend
    obtain ⟨v, ev, q1⟩ := q1
    subst e1 ev
    have ru : RelV v u := by cases r1 with | cons h _ => exact h
    have dn' : hp.objs.size ≤ dx := by
      have : ((hp.push (PySem.W.kdv_tup [u])).push (PySem.HandSPX.excO C hp.objs.size)).objs.size = hp.objs.size + 2 := by simp [Heap.push]
      omega
    obtain ⟨G, g1, g2⟩ := restrict h' fun b => decide (b ≠ hp.objs.size + 1)
    have gk : ∀ b, b ≠ hp.objs.size + 1 → G.get? b = h'.get? b := fun b hb => g1 b (decide_eq_true hb)
    have ge : G.get? (hp.objs.size + 1) = none := g2 _ (by simp)
    have keepG : ∀ b o, hp.get? b = some o → G.get? b = some o := fun b o z => by
      rw [gk b (fun y => by rw [y, hne] at z; cases z)]
      exact keepAll b o z
    have hnd : H1 dx = none := I1.hok.fresh dn'
    have hnsG : G.Ns1 dx fun y => if y = f then some u else none := hns.at fun o z => (gk dx dne).trans z
    have J : L2.Inv X pins σ (upd H1 dx (.xd [(f, v)])) ⟨G, g, dr, tk, os⟩ := I1.laid (t' := tk) (a := dx) (o := .xd [(f, v)]) keepG dn' (by
      refine ⟨_, hnsG, fun y => ?_⟩
      rw [lookup_put]
      by_cases z : y = f
      · rw [if_pos z, if_pos z]; exact ru
      · rw [if_neg z, if_neg z]; trivial)
    refine ⟨_, _, _, ⟨G, g, dr, tk, os⟩, _, .ref C, some dx, rfl, J, fun b o z => ?_, ge, e2, ⟨rfl, rfl⟩, rfl, rfl, ?_, rfl, I1.bare, raises_own T.ox.exC T.ox.tyC, q1 dx hnd⟩
    · by_cases hb : b = hp.objs.size + 1
      · rw [hb, ge] at z; cases z
      · rw [← gk b hb]; exact z
    · rw [upd_ne (Ne.symm dne)]; exact nH
variable {md : Rm} {en : En} {Wx : L2.WX} {W : Nat} {x f : Str} {C fI : Addr} {ps : List Str} {name qual : Str} {st : Stmt} {p pos pos2 : Pos} {k c : Nat} {e : Expr} {m : ME}
/-- raise C() -/
theorem sd_raise0 (tk : L2.Takes X Wx) (hc : X.calm = true) (hcl : md.cl[c]? = some (C, none)) (T : XIni X.K X.prog C fI none ps name qual st) (hp : ps.length = 1) (hr : Room k X.A) (hg : Gl X x) (hm : X.mg x = some (.ref C)) (hdb : (x == ("__debug__" : Str)) = false := by decide) :
    SD W md en Wx X (.Raise (some (.Call (.Name x p) [] [] pos)) none pos2) (.raise0 c) := by
  have hmk := pmk_ini (es := []) (p := p) (pos := pos) (ta := fun σ H Q => Q [] H) T hr hg hm (by rw [hp]; rfl) (fun pins s σ H Q I q hl f Qa g => by
    refine PySem.W.callWith_K0 I.kIn T.ox.kC ?_
    exact g [] [] H s I .nil q) hdb
  refine PS.imp (L2.ps_raise hc tk hmk) fun D σ H ⟨G, ρ, R, w⟩ => ⟨by rw [hp]; rfl, rfl, ?_⟩
  exact (show ExO G X.K md Wx ⟨c, .none⟩ ρ from w) σ (.ref C) none H R ⟨C, none, hcl, rfl, rfl, rfl⟩
/-- raise C(e) -/
theorem sd_raise1 (tk : L2.Takes X Wx) (hc : X.calm = true) (hcl : md.cl[c]? = some (C, some f)) (T : XIni X.K X.prog C fI (some f) ps name qual st) (hp : ps.length = 2) (hr : Room k X.A) (hg : Gl X x) (hm : X.mg x = some (.ref C)) (he : PD md en Wx X e m) (hdb : (x == ("__debug__" : Str)) = false := by decide)
    (hs : starEach [e] X.env = (false, eval e X.env) :: starEach [] X.env := by rfl) (hpl : (backTo pos (starEach [] X.env)).any (·.1) = false := by rfl) :
    SD W md en Wx X (.Raise (some (.Call (.Name x p) [e] [] pos)) none pos2) (.raise1 c m) := by
  have pa := pa_cons (PE.toV he) pa_nil hs
  have hmk := pmk_ini (es := [e]) (p := p) (pos := pos) T hr hg hm (by rw [hp]; rfl) (fun pins s σ H Q I q hl f Qa g => by
    refine PySem.W.callWith_K (h₀ := X.base) I.ok.mod.kin T.ox.kC (thn (pa.run pos pins s σ H _ I q) fun us s1 ⟨vs, H1, I1, r1, q1⟩ => ⟨I1.kIn, g us vs H1 s1 I1 r1 q1⟩) hs hpl) hdb
  refine PS.imp (L2.ps_raise hc tk hmk) fun D σ H ⟨G, ρ, R, w⟩ => ?_
  refine ⟨G, ρ, R, Want.mono (Want.bind (show Want (ExO G X.K md Wx) (((evalE md.l en m ρ).bind settle).bind fun d ρ => .exc ⟨c, d⟩ ρ) _ from w)) fun d ρ1 w v H1 fr sb R1 rep => ⟨by rw [hp]; rfl, v, rfl, fun dx hd => ?_⟩⟩
  have ex := Ex.new (o := .xd [(f, v)]) hd
  exact (show ExO G X.K md Wx ⟨c, d⟩ ρ1 from w) σ (.ref C) (some dx) _ (R1.grow ex) ⟨C, some f, hcl, rfl, dx, v, rfl, upd_same, rep.mono ex.ext⟩
end
end Dn
/-! Den17: try, what is asked of a caught exception -/
namespace Dn
open PySem PySem.Spec PyProof.Rows L2

/-! ### classes among themselves -/
/-- is an instance of each of the classes one of the class at cv: as hits says -/
def SubAll (K : PySem.W.Frag) (cv : Addr) (co : Option Nat) : Nat → List (Addr × Option Str) → Prop
  | _, [] => True
  | n, (C, _) :: r => (PySem.W.subIn K (.ref C) (.ref cv) = some (hits co ⟨n, .none⟩) ∧ (hits co ⟨n, .none⟩ = false → C ≠ cv)) ∧ SubAll K cv co (n + 1) r
theorem SubAll.get {K : PySem.W.Frag} {cv C : Addr} {co : Option Nat} {fo : Option Str} : ∀ {n : Nat} {l : List (Addr × Option Str)} {i : Nat}, SubAll K cv co n l → l[i]? = some (C, fo) → PySem.W.subIn K (.ref C) (.ref cv) = some (hits co ⟨n + i, .none⟩) ∧ (hits co ⟨n + i, .none⟩ = false → C ≠ cv)
  | n, [], i, _, e => by simp at e
  | n, (C', f') :: r, 0, h, e => by
    simp at e
    obtain ⟨rfl, rfl⟩ := e
    exact h.1
  | n, (C', f') :: r, i + 1, h, e => by
    have q := SubAll.get (i := i) h.2 (by simpa using e)
    rw [show n + (i + 1) = n + 1 + i by omega]
    exact q
structure ClsF (K : PySem.W.Frag) (C : Addr) : Prop where
  hs : PySem.W.subIn K (.ref C) (.type "BaseException") = some true
  hd : PySem.W.hasDictIn K C = true
  ht : PySem.W.typeIn K (.ref C) = some (.type "type")
theorem exm_all {K : PySem.W.Frag} {cv C : Addr} {co : Option Nat} {fo : Option Str} {l : List (Addr × Option Str)} {i : Nat} (F : ClsF K cv) (h : SubAll K cv co 0 l) (e : l[i]? = some (C, fo)) : PySem.W.exmOne K (.ref C) (.ref cv) = some (hits co ⟨i, .none⟩) := by
  have q := (h.get e).1
  rw [Nat.zero_add] at q
  exact PySem.W.exm_ref F.hs F.hd F.ht q
theorem clsIn_of {K : PySem.W.Frag} {C : Addr} (h : PySem.W.hasDictIn K C = true) : (PySem.W.clsIn K C).isSome = true := by
  obtain ⟨cd, hc, _⟩ := PySem.W.any_some h
  rw [hc]; rfl
theorem kit_all2 {K : PySem.W.Frag} {cv C : Addr} {co : Option Nat} {fo : Option Str} {l : List (Addr × Option Str)} {i : Nat} (F : ClsF K cv) (h : SubAll K cv co 0 l) (e : l[i]? = some (C, fo)) : PySem.W.kitOne K (.ref C) (.ref cv) = some (hits co ⟨i, .none⟩) := by
  obtain ⟨q1, q2⟩ := h.get e
  rw [Nat.zero_add] at q1 q2
  unfold PySem.W.kitOne
  by_cases z : C = cv
  · rw [if_pos (by rw [z]; exact beq_self_eq_true _)]
    cases y : hits co ⟨i, .none⟩ with
    | true => rfl
    | false => exact absurd z (q2 y)
  · rw [if_neg (by rw [beq_iff_eq]; exact fun q => z (Value.ref.inj q))]
    show (if ((PySem.W.clsIn K cv).isSome && PySem.W.typeIn K (.ref cv) == some (.type "type")) = true then PySem.W.subIn K (.ref C) (.ref cv) else none) = _
    rw [clsIn_of F.hd, F.ht, if_pos (by rfl)]
    exact q1
/-- all are ValueErrors -/
def SubVE (K : PySem.W.Frag) (l : List (Addr × Option Str)) : Prop := ∀ p ∈ l, PySem.W.subIn K (.ref p.1) (.type "ValueError") = some true
theorem kit_ve {K : PySem.W.Frag} {C : Addr} {fo : Option Str} {l : List (Addr × Option Str)} {i : Nat} (h : SubVE K l) (e : l[i]? = some (C, fo)) : PySem.W.kitOne K (.ref C) (.type "ValueError") = some true := by
  have q := h _ (List.mem_of_getElem? e)
  show (if ((Value.ref C : Value) == .type "ValueError") = true then some true else (if PySem.W.kitMeta "ValueError" = true then PySem.W.subIn K (.ref C) (.type "ValueError") else none)) = _
  rw [if_neg (by simp), if_pos (by decide +kernel)]
  exact q
/-- an own exception's class: all that is asked of it -/
structure ExCls (K : PySem.W.Frag) (prog : Program) (C fI : Addr) (fo : Option Str) (ps : List Str) (name qual : Str) (st : Stmt) : Prop extends XIni K prog C fI fo ps name qual st where
  cf : ClsF K C
  ec : ExcC K C
theorem excls_mk {K : PySem.W.Frag} {prog : Program} {C fI : Addr} {fo : Option Str} {ps : List Str} {name qual : Str} {st : Stmt} (T : XTxt prog fo ps name qual st)
    {oc : Value} {od : Option Addr} {kV doc pm : Value} {an : Option Addr} {cda : Addr} {ct : Value} {cc : Addr} {osl : Array (Option Value)} {ccl : Value} {cdd : Option Addr} {vs : Array Value} {ccs : Array (Option Value)} {file : Str} {tf : Tok} {cl : Value} {cld : Option Addr} {csl : Array (Option Value)}
    {nm q : Str} {N : Addr} {bs bm : List Value} {sn : List Str} {sub : List Value} {ab : Bool} {col : Option Bool} {dd : Option Addr} {k0 k1 k2 k3 k5 : Option Value}
    (iC : PySem.W.findIn K (.ref C) "__init__" = some (some (.ref fI)))
    (lI : K.lookup fI = some ⟨oc, od, .func (PySem.W.ksFn name qual (defArgs st) (defBody st) (defScope st) .none kV doc pm an (.ref cda) ct cc), osl⟩)
    (cI : PySem.W.codeIn K (.ref cda) qual = true) (lc : K.lookup cda = some ⟨ccl, cdd, .fields vs, ccs⟩) (lv : vs[2]? = some (.str file tf)) (lf : ((prog.main.file : Str) == file) = true) (lx : K.lookup cc = some ⟨cl, cld, .cell (some (.ref C)), csl⟩)
    (supG : PySem.W.nsIn K mainGlobals "super" = some none) (opq : PySem.W.nsIn K cStatics "thirdparty.any" = some none) (sup : PySem.W.ks_superIn K C C "__init__" = some (some (.builtin "ValueError.__init__"))) (subB : PySem.W.subIn K (.ref C) (.type "ValueError") = some true)
    (mro : PySem.W.mroIn K C (.ref C) = some true) (lC : K.lookup C = some (excClassObj nm q C N bs bm true sn sub ab col dd k0 k1 k2 k3 k5 "ValueError.__new__")) (rV : PySem.HandSPX.refsVE bm = true)
    (sa : PySem.W.findIn K (.ref C) "__setattr__" = some (some (.builtin "object.__setattr__"))) (exC : PySem.W.subIn K (.ref C) (.type "BaseException") = some true) (tyC : PySem.W.typeIn K (.ref C) = some (.type "type")) (kC : PySem.W.keepIn K (.ref C) = true)
    (tI : PySem.W.typeIn K (.ref fI) = some (.type "function")) (hd : PySem.W.hasDictIn K C = true)
    (hg : PySem.W.findIn K (.ref C) "__getattribute__" = some (some (.builtin "BaseException.__getattribute__"))) (hk : PySem.W.findIn K (.ref C) "__getattr__" = some none) (ha : PySem.W.findIn K (.ref C) "__class__" = some (some (.builtin "object.__class__")))
    (hn : PySem.W.specialIn K (.builtin "object.__class__") "__get__" = some (some (.builtin "getset_descriptor.__get__"))) (ht : PySem.W.takesIn K (.builtin "object.__class__") = some true) (hm : PySem.W.mroIn K C (.type "object") = some true)
    (fl : ∀ f, fo = some f → PySem.W.findIn K (.ref C) f = some none) : ExCls K prog C fI fo ps name qual st where
  toXTxt := T
  lk := ⟨oc, od, kV, doc, pm, an, cda, ct, cc, osl, lI, cI, ⟨ccl, cdd, vs, ccs, file, tf, lc, lv, lf⟩, cl, cld, csl, lx⟩
  supG := supG
  opq := opq
  sup := sup
  subB := subB
  mro := mro
  ox := ⟨⟨nm, q, N, bs, bm, sn, sub, ab, col, dd, k0, k1, k2, k3, k5, lC, rV⟩, sa, exC, tyC, kC⟩
  fld := fl
  iC := iC
  tI := tI
  cf := ⟨exC, hd, tyC⟩
  ec := ⟨hg, hk, exC, hd, ha, hn, ht, hm⟩
def ExcAll (K : PySem.W.Frag) (l : List (Addr × Option Str)) : Prop := ∀ p ∈ l, ExcC K p.1

/-! ### a caught exception -/
theorem RepX.dict {K : PySem.W.Frag} {cl : List (Addr × Option Str)} {H : Hp} {x : Exc} {cls : Value} {d : Option Addr} (h : RepX K cl H x cls d) : ∀ dd, d = some dd → ∃ fs, H dd = some (.xd fs) := fun dd e => by
  obtain ⟨C, fo, h1, h2, h3⟩ := h
  cases fo with
  | none => rw [h3.1] at e; cases e
  | some f =>
    obtain ⟨dx, v, e1, e2, _⟩ := h3
    rw [e1] at e; cases e
    exact ⟨_, e2⟩
def rIsX (K : PySem.W.Frag) (a : Addr) (cls : Value) (d : Option Addr) : List V → Hp → VK → Prop := fun xs H Q => ∃ (D : Addr) (c : V) (cv : Value) (b : Bool), xs = [.ref a, c] ∧ cls = .ref D ∧ ExcC K D ∧ (∀ u, RelV c u → u = cv) ∧ PySem.W.kitOne K cls cv = some b ∧ (∀ dd, d = some dd → ∃ fs, H dd = some (.xd fs)) ∧ Q (.bl b) H
theorem call_isX {X : Cx} {a : Addr} {cls : Value} {d : Option Addr} {oe : Obj} {pn : List (Addr × Obj)} (hz : Zc cls d oe) (hf : ∃ vs, oe.data = .fields vs) : CallR (X.suite a ((a, oe) :: pn)) (.builtin "isinstance") (rIsX X.K a cls d) := by
  intro pins s σ H xs us Q I r h
  obtain ⟨D, c, cv, b, rfl, ec, C, hcv, e, hdd, q⟩ := h
  subst ec
  cases r with
  | cons rx rr =>
    cases rr with
    | cons rt rr =>
      cases rr
      cases rx
      have ecv := hcv _ rt
      subst ecv
      obtain ⟨hget, _⟩ := I.pin (a, oe) (List.mem_append.mpr (.inl List.mem_cons_self))
      obtain ⟨vs, hv⟩ := hf
      have J : ∃ od, PySem.W.InstAt s.heap a oe D od := by
        cases d with
        | none => exact ⟨none, hget, hz.1, by unfold PySem.W.notCls; rw [hv] <;> rfl, by rw [hz.2]; trivial⟩
        | some dd =>
          obtain ⟨fs, hfs⟩ := hdd dd rfl
          have hx : ObjOk X.prog X.w H s.heap dd (.xd fs) := I.hok dd _ hfs
          obtain ⟨mA, hns, _⟩ := hx
          obtain ⟨od, ho, _⟩ := lookIn_ns hns
          exact ⟨some od, hget, hz.1, by unfold PySem.W.notCls; rw [hv] <;> rfl, by rw [hz.2]; exact ho⟩
      obtain ⟨od, J⟩ := J
      exact PySem.W.kia_one (PySem.W.kitx_exc (clsIn_of C.hd) C.hg C.hk C.hs C.ha C.hn C.ht C.hm) I.kIn J e (fun z => nomatch z) fun tk => ⟨.bl b, H, I.kept (t' := tk) fun _ _ z => z, rfl, q⟩
theorem oth_exc {G : Gh} {K : PySem.W.Frag} {md : Rm} {σ : L2.St} {ρ : Env} {H : Hp} {i : Nat} {x : Exc} {a : Addr} {cls : Value} {d : Option Addr} (R : RS G K md σ ρ H) (h : ρ[i]? = some (.exc x)) (hx : md.xo = some (a, cls, d)) : σ[i]? = some (some (.ref a)) ∧ RepX K md.cl H x cls d := by
  obtain ⟨v, h1, a', cls', d', e1, e2, e3⟩ := R.oth i _ h rfl
  rw [hx] at e1
  cases e1
  subst e2
  exact ⟨h1, e3⟩
section
variable {X : Cx} {md : Rm} {en : En} {Wx : L2.WX} {a : Addr} {cls : Value} {d : Option Addr} {oe : Obj} {pn : List (Addr × Obj)} {x y : Str} {p1 p2 p3 pos : Pos}
/-- isinstance(error, C) -/
theorem pd_isx (i c : Nat) {cv : Addr} (hxo : md.xo = some (a, cls, d)) (hz : Zc cls d oe) (hf : ∃ vs, oe.data = .fields vs) (EA : ExcAll X.K md.cl) (F : ClsF X.K cv) (SA : SubAll X.K cv (some c) 0 md.cl)
    (hg : Gl X "isinstance") (hmi : X.mg "isinstance" = none) (hN : X.N[i]? = some x) (hv : Vis X.env.scope x) (hgy : Gl X y) (hmy : X.mg y = some (.ref cv)) (hd : (x == ("__debug__" : Str)) = false := by decide) (hcd : (x == ("__classdict__" : Str)) = false := by decide) (hdy : (y == ("__debug__" : Str)) = false := by decide)
    (hs : starEach [.Name x p1, .Name y p2] X.env = (false, eval (.Name x p1) X.env) :: starEach [.Name y p2] X.env := by rfl) (hpl : (backTo pos (starEach [.Name y p2] X.env)).any (·.1) = false := by rfl) :
    PD md en Wx (X.suite a ((a, oe) :: pn)) (.Call (.Name "isinstance" p3) [.Name x p1, .Name y p2] [] pos) (.isx i c) := by
  refine PE.imp (pe_callB (X := X.suite a ((a, oe) :: pn)) (call_isX hz hf) hg hmi (by decide +kernel) (pa_cons (pe_var hN hv hd hcd) (pa_cons (pe_glob hgy hmy (v := .ref cv) rfl hdy) pa_nil (by rfl)) hs) (by decide) (by decide) hs hpl) fun σ H Q ⟨G, ρ, R, w⟩ => ?_
  have w : Want _ (match ρ[i]? with
    | some (.exc x) => Res.ok (EV.val (.bool (x.cls == c))) ρ
    | _ => .stuck) (Aft G X.K md σ ρ H Q) := w
  cases e : ρ[i]? with
  | none => rw [e] at w; exact False.elim w
  | some s =>
    rw [e] at w
    cases s with
    | exc x =>
      obtain ⟨h1, h2⟩ := oth_exc R e hxo
      have h3 := h2.dict
      obtain ⟨C, fo, e1, e2, _⟩ := h2
      subst e2
      refine ⟨_, h1, C, .ref cv, .ref cv, x.cls == c, rfl, rfl, EA _ (List.mem_of_getElem? e1), fun u hu => hu, ?_, h3, (RNew.of R w).here (.bl _)⟩
      exact kit_all2 F SA e1
    | _ => exact False.elim w
/-- isinstance(error, ValueError) -/
theorem pd_isVE (i : Nat) (hxo : md.xo = some (a, cls, d)) (hz : Zc cls d oe) (hf : ∃ vs, oe.data = .fields vs) (EA : ExcAll X.K md.cl) (SV : SubVE X.K md.cl)
    (hg : Gl X "isinstance") (hmi : X.mg "isinstance" = none) (hN : X.N[i]? = some x) (hv : Vis X.env.scope x) (hgy : Gl X "ValueError") (hmy : X.mg "ValueError" = none) (hd : (x == ("__debug__" : Str)) = false := by decide) (hcd : (x == ("__classdict__" : Str)) = false := by decide)
    (hs : starEach [.Name x p1, .Name "ValueError" p2] X.env = (false, eval (.Name x p1) X.env) :: starEach [.Name "ValueError" p2] X.env := by rfl) (hpl : (backTo pos (starEach [.Name "ValueError" p2] X.env)).any (·.1) = false := by rfl) :
    PD md en Wx (X.suite a ((a, oe) :: pn)) (.Call (.Name "isinstance" p3) [.Name x p1, .Name "ValueError" p2] [] pos) (.isb i) := by
  refine PE.imp (pe_callB (X := X.suite a ((a, oe) :: pn)) (call_isX hz hf) hg hmi (by decide +kernel) (pa_cons (pe_var hN hv hd hcd) (pa_cons (pe_bltn (v := .ty "ValueError") hgy hmy PyProof.Rows.Boot.«ValueError» rfl (by decide) (by decide)) pa_nil (by rfl)) hs) (by decide) (by decide) hs hpl) fun σ H Q ⟨G, ρ, R, w⟩ => ?_
  have w : Want _ (match ρ[i]? with
    | some (.exc x) => Res.ok (EV.val (.bool true)) ρ
    | _ => .stuck) (Aft G X.K md σ ρ H Q) := w
  cases e : ρ[i]? with
  | none => rw [e] at w; exact False.elim w
  | some s =>
    rw [e] at w
    cases s with
    | exc x =>
      obtain ⟨h1, h2⟩ := oth_exc R e hxo
      have h3 := h2.dict
      obtain ⟨C, fo, e1, e2, _⟩ := h2
      subst e2
      exact ⟨_, h1, C, .ty "ValueError", .type "ValueError", true, rfl, rfl, EA _ (List.mem_of_getElem? e1), fun u hu => hu, kit_ve SV e1, h3, (RNew.of R w).here (.bl _)⟩
    | _ => exact False.elim w
/-- isinstance(error, KindWishError) -/
theorem pd_isb (i : Nat) {cv : Addr} (hxo : md.xo = some (a, cls, d)) (hz : Zc cls d oe) (hf : ∃ vs, oe.data = .fields vs) (EA : ExcAll X.K md.cl) (F : ClsF X.K cv) (SA : SubAll X.K cv none 0 md.cl)
    (hg : Gl X "isinstance") (hmi : X.mg "isinstance" = none) (hN : X.N[i]? = some x) (hv : Vis X.env.scope x) (hgy : Gl X y) (hmy : X.mg y = some (.ref cv)) (hd : (x == ("__debug__" : Str)) = false := by decide) (hcd : (x == ("__classdict__" : Str)) = false := by decide) (hdy : (y == ("__debug__" : Str)) = false := by decide)
    (hs : starEach [.Name x p1, .Name y p2] X.env = (false, eval (.Name x p1) X.env) :: starEach [.Name y p2] X.env := by rfl) (hpl : (backTo pos (starEach [.Name y p2] X.env)).any (·.1) = false := by rfl) :
    PD md en Wx (X.suite a ((a, oe) :: pn)) (.Call (.Name "isinstance" p3) [.Name x p1, .Name y p2] [] pos) (.isb i) := by
  refine PE.imp (pe_callB (X := X.suite a ((a, oe) :: pn)) (call_isX hz hf) hg hmi (by decide +kernel) (pa_cons (pe_var hN hv hd hcd) (pa_cons (pe_glob hgy hmy (v := .ref cv) rfl hdy) pa_nil (by rfl)) hs) (by decide) (by decide) hs hpl) fun σ H Q ⟨G, ρ, R, w⟩ => ?_
  have w : Want _ (match ρ[i]? with
    | some (.exc x) => Res.ok (EV.val (.bool true)) ρ
    | _ => .stuck) (Aft G X.K md σ ρ H Q) := w
  cases e : ρ[i]? with
  | none => rw [e] at w; exact False.elim w
  | some s =>
    rw [e] at w
    cases s with
    | exc x =>
      obtain ⟨h1, h2⟩ := oth_exc R e hxo
      have h3 := h2.dict
      obtain ⟨C, fo, e1, e2, _⟩ := h2
      subst e2
      refine ⟨_, h1, C, .ref cv, .ref cv, true, rfl, rfl, EA _ (List.mem_of_getElem? e1), fun u hu => hu, ?_, h3, (RNew.of R w).here (.bl _)⟩
      exact kit_all2 F SA e1
    | _ => exact False.elim w
/-- error.f -/
theorem pd_fldx (i c : Nat) {C : Addr} {n : Str} (hxo : md.xo = some (a, cls, d)) (hz : Zc cls d oe) (hf : ∃ vs, oe.data = .fields vs) (EA : ExcAll X.K md.cl) (hcl : md.cl[c]? = some (C, some n)) (hno : PySem.W.findIn X.K (.ref C) n = some none)
    (hN : X.N[i]? = some x) (hv : Vis X.env.scope x) (hd : (x == ("__debug__" : Str)) = false := by decide) (hcd : (x == ("__classdict__" : Str)) = false := by decide)
    (hb : attributeBase (.Name x p1) n X.env (eval (.Name x p1) X.env) = eval (.Name x p1) X.env := by rfl) : PD md en Wx (X.suite a ((a, oe) :: pn)) (.Attribute (.Name x p1) n pos) (.fldx i c) := by
  have ec := EA _ (List.mem_of_getElem? hcl)
  refine PE.imp (pe_xf (C := C) ⟨ec.hg, ec.hk, ec.hs, ec.hd⟩ hno hz hf (pe_var hN hv hd hcd) hb) fun σ H Q ⟨G, ρ, R, w⟩ => ?_
  have w : Want _ (match ρ[i]? with
    | some (.exc x) => if x.cls = c then Res.ok (EV.val x.fld) ρ else .stuck
    | _ => .stuck) (Aft G X.K md σ ρ H Q) := w
  cases e : ρ[i]? with
  | none => rw [e] at w; exact False.elim w
  | some s =>
    rw [e] at w
    cases s with
    | exc x =>
      obtain ⟨h1, h2⟩ := oth_exc R e hxo
      have w : Want (ExO G X.K md Wx) (if x.cls = c then Res.ok (EV.val x.fld) ρ else .stuck) (Aft G X.K md σ ρ H Q) := w
      by_cases hc : x.cls = c
      case neg => rw [if_neg hc] at w; exact False.elim w
      rw [if_pos hc] at w
      obtain ⟨C', fo, e1, e2, e3⟩ := h2
      rw [hc, hcl] at e1
      cases e1
      obtain ⟨dx, v, f1, f2, f3⟩ := e3
      subst e2
      exact ⟨_, h1, rfl, rfl, dx, _, v, f1, f2, by simp [List.lookup], (show Aft G X.K md σ ρ H Q (.val x.fld) ρ from w) v H Fr.refl (Sub.refl ρ) R f3⟩
    | _ => exact False.elim w
end
/-! ### try -/
/-- .. with an exception at hand -/
def Rm.at (md : Rm) (xo : Option (Addr × Value × Option Addr)) : Rm := { md with xo := xo }
def Gh.mark (G : Gh) (H : Hp) : Gh := { G with anc := fun Ha => Ha = H }
section
variable {G : Gh} {K : PySem.W.Frag} {md : Rm} {σ : L2.St} {ρ : Env} {H H0 : Hp}
theorem RS.mark (R : RS G K md σ ρ H) : RS (G.mark H) K md σ ρ H := ⟨R.len, R.val, R.own, R.dis, R.adr, R.thr, R.keep, R.fix, R.oth, R.gl, fun Ha q => by
  rcases q with q | q
  · cases q; exact Ext.refl H
  · exact R.anc Ha (.inr q)⟩
/-- the anchor is let go -/
theorem RS.unmark (a : ∀ Ha, (G.anc Ha ∨ md.h0 = some Ha) → Ext Ha H0) (R : RS (G.mark H0) K md σ ρ H) : RS G K md σ ρ H := ⟨R.len, R.val, R.own, R.dis, R.adr, R.thr, R.keep, R.fix, R.oth, R.gl, fun Ha q => (a Ha q).trans (R.anc H0 (.inl rfl))⟩
theorem RS.noexc (R : RS G K md σ ρ H) (h : md.xo = none) {i : Nat} {x : Exc} : ρ[i]? ≠ some (.exc x) := fun e => by
  obtain ⟨v, _, a, cls, d, z, _⟩ := R.oth i _ e rfl
  rw [h] at z; cases z
/-- except .. as name -/
theorem RS.caught (R : RS G K md σ ρ H) (h : md.xo = none) {a : Addr} {cls : Value} {d : Option Addr} {x : Exc} (rx : RepX K md.cl H x cls d) {i : Nat} (hf : free md.l i = true) : RS G K (md.at (some (a, cls, d))) (σ.set i (some (.ref a))) (ρ.set i (.exc x)) H := by
  have R1 : RS G K (md.at (some (a, cls, d))) σ ρ H := ⟨R.len, R.val, R.own, R.dis, R.adr, R.thr, R.keep, R.fix, fun j s e z => (by
    cases s with
    | exc y => exact absurd e (R.noexc h)
    | clo => exact R.oth j _ e z
    | _ => cases z), R.gl, R.anc⟩
  exact R1.put hf (fun d e => by cases e) (fun d e => by cases e) fun _ => ⟨a, cls, d, rfl, rfl, rx⟩
theorem clearX_get {j : Nat} {s : Slot} (e : (clearX ρ)[j]? = some s) : (ρ[j]? = some s ∧ ∀ x, s ≠ .exc x) ∨ s = .un := by
  unfold clearX at e
  rw [List.getElem?_map] at e
  obtain ⟨t, h1, h2⟩ := Option.map_eq_some_iff.mp e
  cases t with
  | exc x => exact .inr h2.symm
  | _ => subst h2; exact .inl ⟨h1, fun x z => by cases z⟩
theorem RS.uncaught (R : RS G K (md.at xo) σ ρ H) (h : md.xo = none) {i : Nat} (hf : free md.l i = true) : RS G K md (σ.set i none) ((clearX ρ).set i .un) H := by
  have at_ : ∀ {j : Nat} {s : Slot}, ((clearX ρ).set i .un)[j]? = some s → s ≠ .un → j ≠ i ∧ ρ[j]? = some s ∧ (∀ x, s ≠ .exc x) ∧ (σ.set i none)[j]? = σ[j]? := fun {j s} e n => by
    by_cases z : i = j
    · subst z
      by_cases hl : i < (clearX ρ).length
      · rw [List.getElem?_set_self hl] at e; cases e; exact absurd rfl n
      · rw [List.getElem?_eq_none (by rw [List.length_set]; omega)] at e; cases e
    · rw [List.getElem?_set_ne z] at e
      rcases clearX_get e with ⟨h1, h2⟩ | h1
      · exact ⟨fun q => z q.symm, h1, h2, List.getElem?_set_ne z⟩
      · exact absurd h1 n
  refine ⟨by rw [List.length_set, List.length_set]; unfold clearX; rw [List.length_map]; exact R.len, fun j d e => ?_, fun j d e => ?_, fun j k b d e h1 h2 h3 h4 => ?_, fun j b d h1 h2 => ?_, R.thr, R.keep, fun j v h1 h2 => ?_, fun j s e z => ?_, R.gl, R.anc⟩
  · obtain ⟨_, q1, _, q2⟩ := at_ e (by simp)
    rw [q2]; exact R.val j d q1
  · obtain ⟨_, q1, _, q2⟩ := at_ e (by simp)
    rw [q2]; exact R.own j d q1
  · obtain ⟨_, q1, _, q2⟩ := at_ h1 (by simp)
    obtain ⟨_, q3, _, q4⟩ := at_ h2 (by simp)
    rw [q2] at h3
    rw [q4] at h4
    exact R.dis j k b d e q1 q3 h3 h4
  · obtain ⟨_, q1, _, q2⟩ := at_ h1 (by simp)
    rw [q2] at h2
    exact R.adr j b d q1 h2
  · have z : i ≠ j := fun q => free_ne hf (by rw [q]; exact h1)
    rw [List.getElem?_set_ne z]
    exact R.fix j v h1 h2
  · obtain ⟨_, q1, q3, q2⟩ := at_ e (fun y => by subst y; cases z)
    rw [q2]
    cases s with
    | exc x => exact absurd rfl (q3 x)
    | clo => exact R.oth j _ q1 z
    | _ => cases z
end
theorem RepRet.same {G G' : Gh} {K : PySem.W.Frag} {σ : L2.St} {H : Hp} {v : V} {e : EV} (h0 : G.H0 = G'.H0) (h : RepRet G K σ H v e) : RepRet G' K σ H v e := by
  cases e with
  | val d => exact h
  | fr d => obtain ⟨h1, a, h2, h3⟩ := h; exact ⟨h1, a, h2, by rw [← h0]; exact h3⟩
  | al i => exact h
/-- the anchor is let go behind a statement -/
theorem FlP.mark {G : Gh} {K : PySem.W.Frag} {md : Rm} {H : Hp} {D : Ends} {fl : Fl} {ρ' : Env} (a : ∀ Ha, (G.anc Ha ∨ md.h0 = some Ha) → Ext Ha H) (p : FlP G K md H D fl ρ') : FlP (G.mark H) K md H D fl ρ' := by
  cases fl with
  | nx => exact fun σ' H' R x => p σ' H' (R.unmark a) x
  | brk => exact fun σ' H' R x => p σ' H' (R.unmark a) x
  | cnt => exact fun σ' H' R x => p σ' H' (R.unmark a) x
  | ret e => exact fun σ' v H' R r => p σ' v H' (R.unmark a) (r.same rfl)
section
variable {X : Cx} {md : Rm} {en : En} {Wx : L2.WX} {W : Nat} {x n : Str} {cv : Addr} {co : Option Nat} {body suite : List Stmt} {b₀ : Stmt} {mb mh : List MS} {np pos pos' : Pos}
/-- try: .. except C as name: .. -/
theorem sd_tryAs (i : Nat) (hs : X.stack = X.env :: X.outer) (hf : X.env.frame = some X.env.locals) (hN : X.N.Nodup) (hi : X.N[i]? = some n) (hln : X.env.kindOf n = some .local) (hg : Gl X x) (hm : X.mg x = some (.ref cv)) (F : ClsF X.K cv) (SA : SubAll X.K cv co 0 md.cl) (hxo : md.xo = none) (tk : L2.Takes X Wx)
    (hb : ∀ (W' : L2.WX) (pn : List (Addr × Obj)) (xe : Value → Shared → Prop), L2.Takes (X.tr pn xe) W' → PassesOwn (model X.prog X.w) X.A X.env xe → BD W md en W' (X.tr pn xe) body mb)
    (hsu : ∀ (a : Addr) (oe : Obj) (cls : Value) (d : Option Addr) (pn : List (Addr × Obj)), Zc cls d oe → (∃ vs, oe.data = .fields vs) → BD W (md.at (some (a, cls, d))) en W0 (X.suite a ((a, oe) :: pn)) (b₀ :: suite) mh)
    (hdx : (x == ("__debug__" : Str)) = false := by decide) : SD W md en Wx X (.Try body [.ExceptHandler (some (.Name x np)) (some n) (b₀ :: suite) pos'] [] [] pos) (.tryAs mb co i mh) := by
  refine PS.imp (ps_try_as (tb := fun W' => tSt X.K md W' (execSs W md.l en mb)) (ts := fun a cls d => tSt X.K (md.at (some (a, cls, d))) W0 (execSs W md.l en mh)) (i := i) hs hf hN hi hln ⟨hg, hdx, .inl hm⟩ tk hb hsu) fun D σ H ⟨G, ρ, R, w⟩ => ?_
  have w : Want (ExO G X.K md Wx) (if free md.l i = true then match execSs W md.l en mb ρ with
    | .exc x ρ => if hits co x = true then (execSs W md.l en mh (ρ.set i (.exc x))).nox.bind fun f ρ => if okRet i f = true then .ok f ((clearX ρ).set i .un) else .stuck else .exc x ρ
    | r => r
    else .stuck) (FlP G X.K md H D) := w
  by_cases hfr : free md.l i = true
  case neg => rw [if_neg hfr] at w; exact False.elim w
  rw [if_pos hfr] at w
  refine ⟨G.mark H, ρ, R.mark, ?_⟩
  cases e : execSs W md.l en mb ρ with
  | stuck => rw [e] at w; exact False.elim w
  | ok f ρ1 => rw [e] at w; exact FlP.mark R.anc w
  | exc x ρ1 =>
    rw [e] at w
    intro σ1 cls d H1 R1 rx
    have x1 : Ext H H1 := R1.anc H (.inl rfl)
    have R1' : RS G X.K md σ1 ρ1 H1 := R1.unmark R.anc
    obtain ⟨C, fo, e1, e2, e3⟩ := id rx
    refine ⟨hits co x, by rw [e2]; exact exm_all F SA e1, fun hh a ha => ?_, fun hh => ?_⟩
    · have w : Want (ExO G X.K md Wx) (if hits co x = true then (execSs W md.l en mh (ρ1.set i (.exc x))).nox.bind fun f ρ => if okRet i f = true then .ok f ((clearX ρ).set i .un) else .stuck else .exc x ρ1) (FlP G X.K md H D) := w
      rw [if_pos hh] at w
      refine ⟨G, _, R1'.caught hxo rx hfr, w.bind.nox.mono fun fl ρ2 p => ?_⟩
      have p : Want (ExO G X.K md Wx) (if okRet i fl = true then .ok fl ((clearX ρ2).set i .un) else .stuck) (FlP G X.K md H D) := p
      by_cases hk : okRet i fl = true
      case neg => rw [if_neg hk] at p; exact False.elim p
      rw [if_pos hk] at p
      have p : FlP G X.K md H D fl ((clearX ρ2).set i .un) := p
      cases fl with
      | nx => exact fun σ' H' R' x' => p (σ'.set i none) H' (R'.uncaught hxo hfr) (x1.trans x')
      | brk => exact fun σ' H' R' x' => p (σ'.set i none) H' (R'.uncaught hxo hfr) (x1.trans x')
      | cnt => exact fun σ' H' R' x' => p (σ'.set i none) H' (R'.uncaught hxo hfr) (x1.trans x')
      | ret e =>
        intro σ' v H' R' r
        have p : ∀ σ' v H', RS G X.K md σ' ((clearX ρ2).set i .un) H' → RepRet G X.K σ' H' v e → D.rt v H' := p
        cases e with
        | val d' => exact p (σ'.set i none) v H' (R'.uncaught hxo hfr) r
        | fr d' => exact p (σ'.set i none) v H' (R'.uncaught hxo hfr) r
        | al j =>
          have r : σ'[j]? = some (some v) := r
          have hji : i ≠ j := fun z => by subst z; simp [okRet] at hk
          exact p (σ'.set i none) v H' (R'.uncaught hxo hfr) (show (σ'.set i none)[j]? = some (some v) by rw [List.getElem?_set_ne hji]; exact r)
    · have w : Want (ExO G X.K md Wx) (if hits co x = true then (execSs W md.l en mh (ρ1.set i (.exc x))).nox.bind fun f ρ => if okRet i f = true then .ok f ((clearX ρ).set i .un) else .stuck else .exc x ρ1) (FlP G X.K md H D) := w
      rw [if_neg (by rw [hh]; exact Bool.false_ne_true)] at w
      exact w σ1 cls d H1 R1' rx
/-- try: .. except C: .. -/
theorem sd_tryOnly (hs : X.stack = X.env :: X.outer) (hf : X.env.frame = some X.env.locals) (hg : Gl X x) (hm : X.mg x = some (.ref cv)) (F : ClsF X.K cv) (SA : SubAll X.K cv co 0 md.cl) (tk : L2.Takes X Wx)
    (hb : ∀ (W' : L2.WX) (pn : List (Addr × Obj)) (xe : Value → Shared → Prop), L2.Takes (X.tr pn xe) W' → PassesOwn (model X.prog X.w) X.A X.env xe → BD W md en W' (X.tr pn xe) body mb)
    (hsu : ∀ (a : Addr) (oe : Obj) (cls : Value) (d : Option Addr) (pn : List (Addr × Obj)), Zc cls d oe → (∃ vs, oe.data = .fields vs) → BD W md en W0 (X.suite a ((a, oe) :: pn)) (b₀ :: suite) mh)
    (hdx : (x == ("__debug__" : Str)) = false := by decide) : SD W md en Wx X (.Try body [.ExceptHandler (some (.Name x np)) none (b₀ :: suite) pos'] [] [] pos) (.tryOnly mb co mh) := by
  refine PS.imp (ps_try_only (tb := fun W' => tSt X.K md W' (execSs W md.l en mb)) (ts := fun a cls d => tSt X.K md W0 (execSs W md.l en mh)) hs hf ⟨hg, hdx, .inl hm⟩ tk hb hsu) fun D σ H ⟨G, ρ, R, w⟩ => ?_
  have w : Want (ExO G X.K md Wx) (match execSs W md.l en mb ρ with
    | .exc x ρ => if hits co x = true then (execSs W md.l en mh ρ).nox else .exc x ρ
    | r => r) (FlP G X.K md H D) := w
  refine ⟨G.mark H, ρ, R.mark, ?_⟩
  cases e : execSs W md.l en mb ρ with
  | stuck => rw [e] at w; exact False.elim w
  | ok f ρ1 => rw [e] at w; exact FlP.mark R.anc w
  | exc x ρ1 =>
    rw [e] at w
    have w : Want (ExO G X.K md Wx) (if hits co x = true then (execSs W md.l en mh ρ1).nox else .exc x ρ1) (FlP G X.K md H D) := w
    intro σ1 cls d H1 R1 rx
    have x1 : Ext H H1 := R1.anc H (.inl rfl)
    have R1' : RS G X.K md σ1 ρ1 H1 := R1.unmark R.anc
    obtain ⟨C, fo, e1, e2, e3⟩ := id rx
    refine ⟨hits co x, by rw [e2]; exact exm_all F SA e1, fun hh a ha => ?_, fun hh => ?_⟩
    · rw [if_pos hh] at w
      exact ⟨G, ρ1, R1', w.nox.mono fun fl ρ2 p => p.back x1⟩
    · rw [if_neg (by rw [hh]; exact Bool.false_ne_true)] at w
      exact w σ1 cls d H1 R1' rx
end
end Dn
/-! Den18: a lambda handed to a def -/
namespace Dn
open PySem PySem.Spec PyProof.Rows L2 LamX

/-- all but tables stays, nothing goes -/
def GrT (H H' : Hp) : Prop := (∀ b u, H b = some u → (∀ ps, u ≠ .tbl ps) → H' b = some u) ∧ ∀ b, H' b = none → H b = none
theorem GrT.refl (H : Hp) : GrT H H := ⟨fun _ _ h _ => h, fun _ h => h⟩
theorem GrT.trans {H H1 H2 : Hp} (a : GrT H H1) (b : GrT H1 H2) : GrT H H2 := ⟨fun c u h n => b.1 c u (a.1 c u h n) n, fun c h => a.2 c (b.2 c h)⟩
theorem GrT.ext {H H' : Hp} (g : GrT H H') : Ext H H' := ⟨fun b xs h => g.1 b _ h fun _ z => (nomatch z), fun b o u h => g.1 b _ h fun _ z => (nomatch z), fun b u h => g.1 b _ h fun _ z => (nomatch z), fun b C x u h => g.1 b _ h fun _ z => (nomatch z)⟩
theorem lkb_nt {u : HO} (l : Lkb u) : ∀ ps, u ≠ .tbl ps := l.nt
theorem RS.growT {G : Gh} {K : PySem.W.Frag} {md : Rm} {σ : L2.St} {ρ : Dn.Env} {H H' : Hp} (R : RS G K md σ ρ H) (g : GrT H H') (t : Tabs md.T H') : RS G K md σ ρ H' := by
  have x := g.ext
  refine ⟨R.len, fun i d h => ?_, fun i d h => ?_, R.dis, R.adr, fun b h => R.thr b (g.2 b h), fun b u h n k => g.1 b u (R.keep b u h n k) k, R.fix, fun i s h z => ?_, ⟨t, fun c q e => g.1 _ _ (R.gl.2 c q e) (codeO_ne)⟩, fun Ha q => (R.anc Ha q).trans x⟩
  · obtain ⟨v, h1, h2⟩ := R.val i d h
    exact ⟨v, h1, h2.mono x⟩
  · obtain ⟨v, h1, a, u, e1, h4, c⟩ := R.own i d h
    exact ⟨v, h1, a, u, e1, g.1 a _ h4 c.lk.nt, c.mono x⟩
  · obtain ⟨v, h1, h2⟩ := R.oth i s h z
    exact ⟨v, h1, h2.mono x⟩
section
variable {X : Cx} {pins : List (Addr × Obj)} {σ : L2.St} {H : Hp} {s : Shared}
/-- slots are locked -/
theorem lock_all {G : Gh} {md : Rm} : ∀ {ls : List Nat} {ρ : Dn.Env} {H : Hp}, L2.Inv X pins σ H s → RS G X.K md σ ρ H → ∃ H1, L2.Inv X pins σ H1 s ∧ Dn.Fr σ ρ H H1 ∧ Sub ρ (lockAll ls ρ) ∧ RS G X.K md σ (lockAll ls ρ) H1
  | [], ρ, H, I, R => ⟨H, I, Fr.refl, Sub.refl ρ, R⟩
  | i :: ls, ρ, H, I, R => by
    show ∃ H1, _ ∧ _ ∧ Sub ρ (lockAll ls (match ρ[i]? with | some (.own d) => ρ.set i (.val d) | _ => ρ)) ∧ RS G X.K md σ (lockAll ls (match ρ[i]? with | some (.own d) => ρ.set i (.val d) | _ => ρ)) H1
    by_cases ho : ∃ d, ρ[i]? = some (.own d)
    · obtain ⟨d, ho⟩ := ho
      rw [ho]
      obtain ⟨v, hv, _⟩ := R.own i d ho
      obtain ⟨a, u, rfl, h4, lk, ow, L⟩ := lock_slot R ho hv
      obtain ⟨o, I1⟩ := Dn.Inv.lock I h4 lk
      obtain ⟨fr, R1, _⟩ := L o
      obtain ⟨H2, I2, fr2, sb2, R2⟩ := lock_all (ls := ls) I1 R1
      have sb := Sub.set ho (SlSub.lock d d)
      exact ⟨H2, I2, fr.trans sb fr2, sb.trans sb2, R2⟩
    · have e : (match ρ[i]? with | some (.own d) => ρ.set i (.val d) | _ => ρ) = ρ := by
        cases z : ρ[i]? with
        | none => rfl
        | some t =>
          cases t with
          | own d => exact absurd ⟨d, z⟩ ho
          | _ => rfl
      rw [e]
      exact lock_all I R
/-- a lambda is made; the heap is told to the end -/
theorem lam_made {T : List (Addr × Str)} {c P : Addr} {params : Arguments} {body : Expr} {scope : Scope} {pos : Pos} {E : Value → Shared → Prop} {Q : Value → Shared → Prop} (I : L2.Inv X pins σ H s) (TB : TabB X.base X.mg c P) (hcode : X.env.code = .ref c)
    (hm : (P, X.env.qual ++ "<lambda>") ∈ T) (hu : ∀ p ∈ T, p.1 = P → p.2 = X.env.qual ++ "<lambda>") (hT : Tabs T H) (hdef : defaultsOf params X.env = ([], [])) (hfree : ∀ y ∈ scope.names, y.2 = .free → ∃ c, X.env.cells.lookup y.1 = some c)
    (h : ∀ (f c' : Addr) (pm ctv : Value) (H1 : Hp) (s' : Shared), L2.Inv X pins σ H1 s' → GrT H H1 → Tabs T H1 →
      s'.heap.get? f = some (PySem.W.kla_obj "<lambda>" (X.env.qual ++ "<lambda>") params body scope (cloFrom X.env.cells scope.names []) pm c' ctv) → H1 f = none → f ∉ frs X.stack → H1 c' = some (CodeO c' (X.env.qual ++ "<lambda>")) → Q (.ref f) s') :
    wpAny (model X.prog X.w) X.A (eval (.Lambda params body scope pos) X.env) Q E s := by
  have key : ∀ {c' : Addr} {H1 : Hp} {s1 : Shared} {pm ctv : Value}, L2.Inv X pins σ H1 s1 → GrT H H1 → Tabs T H1 → s.heap.objs.size ≤ s1.heap.objs.size → (∀ b, s1.heap.objs.size ≤ b → H1 b = none) → H1 c' = some (CodeO c' (X.env.qual ++ "<lambda>")) →
      Q (.ref s1.heap.objs.size) { s1 with heap := s1.heap.push (PySem.W.kla_obj "<lambda>" (X.env.qual ++ "<lambda>") params body scope (cloFrom X.env.cells scope.names []) pm c' ctv) } := fun {c' H1 s1 pm ctv} J g t z fr hc => by
    have J2 := J.kept (t' := s1.toks) (h' := s1.heap.push (PySem.W.kla_obj "<lambda>" (X.env.qual ++ "<lambda>") params body scope (cloFrom X.env.cells scope.names []) pm c' ctv)) fun b o e => Heap.get?_push_of_some _ e
    refine h _ c' pm ctv H1 _ J2 g t (Heap.get?_push_size _ rfl) (fr _ (Nat.le_refl _)) (fun q => ?_) hc
    rcases List.mem_cons.mp (I.stkSub _ q) with e | e
    · have lt := I.lt
      rw [← e] at lt
      exact absurd (Nat.lt_of_lt_of_le lt z) (Nat.lt_irrefl _)
    · exact I.nofs z e
  obtain ⟨ps, hP, ht, ha⟩ := hT _ hm
  have bP : s.heap.BuiltinsAt X.mg P := TB.bm.keeps I.bk
  have oP : s.heap.get? P = some { cls := .none, data := .fields ps } := I.hok P _ hP
  apply PySem.W.kla_eval hdef
  cases hc : codeAmong pos ps.toList with
  | some cv =>
    obtain ⟨c', rfl, hco⟩ := ha pos cv hc
    refine PySem.W.kla_makeFunctionHit (mg := X.mg) (c := c) (P := P) (ps := ps) (closure_ok hfree) I.ok.glob (I.mod.glob.keeps I.bk) hcode (TB.code.keeps I.bk) oP ht hc bP fun ctv h' tk k z => ?_
    have J : L2.Inv X pins σ H { s with heap := h', toks := tk } := I.kept k
    exact key J (GrT.refl H) hT z (fun b q => I.hok.fresh (Nat.le_trans z q)) hco
  | none =>
    refine PySem.W.kla_makeFunction (mg := X.mg) (c := c) (P := P) (ps := ps) (closure_ok hfree) I.ok.glob (I.mod.glob.keeps I.bk) hcode (TB.code.keeps I.bk) oP ht hc TB.gP bP fun c' ctv h' tk k z zl rec tb => ?_
    obtain ⟨c2, oc, vs, t, e2, ho, hd, hv⟩ := rec
    cases e2
    have nc : H c' = none := I.hok.fresh z
    have J := inv_table (t' := tk) (more := #[rawInt pos.line, rawInt pos.col, .ref c']) (q := X.env.qual ++ "<lambda>") I hP k tb z ⟨oc, vs, t, ho, hd, hv⟩
    have pc : P ≠ c' := ne_of_none hP nc
    have g : GrT H (upd (upd H P (.tbl (ps ++ #[rawInt pos.line, rawInt pos.col, .ref c']))) c' (CodeO c' (X.env.qual ++ "<lambda>"))) := by
      refine ⟨fun b u e n => ?_, fun b e => ?_⟩
      · rw [upd_ne (ne_of_none e nc), upd_ne fun y => n ps (by rw [y, hP] at e; exact (Option.some.inj e).symm)]
        exact e
      · by_cases y : b = c'
        · rw [y]; exact nc
        · rw [upd_ne y] at e
          by_cases y2 : b = P
          · rw [y2, upd_same] at e; cases e
          · rwa [upd_ne y2] at e
    have at' : ∀ {d q}, H d = some (CodeO d q) → (upd (upd H P (.tbl (ps ++ #[rawInt pos.line, rawInt pos.col, .ref c']))) c' (CodeO c' (X.env.qual ++ "<lambda>"))) d = some (CodeO d q) := fun {d q} e => g.1 _ _ e codeO_ne
    have lst : (ps ++ #[rawInt pos.line, rawInt pos.col, .ref c']).toList = ps.toList ++ [rawInt pos.line, rawInt pos.col, .ref c'] := by simp
    refine key J g (fun p hp => ?_) (Nat.le_trans z (Nat.le_of_lt zl)) (fun b q => ?_) upd_same
    · obtain ⟨p1, p2⟩ := p
      by_cases y : p1 = P
      · have e2 : p2 = X.env.qual ++ "<lambda>" := hu _ hp y
        subst y e2
        refine ⟨_, (upd_ne pc).trans upd_same, by rw [lst]; exact PySem.TriplesOk_snoc _ _ _ _ ht, fun pos' cv hcv => ?_⟩
        rw [lst] at hcv
        rcases among_app _ ht hcv with q | q
        · obtain ⟨d, q1, q2⟩ := ha pos' cv q
          exact ⟨d, q1, at' q2⟩
        · exact ⟨c', q, upd_same⟩
      · obtain ⟨qs, q1, q2, q3⟩ := hT _ hp
        refine ⟨qs, ?_, q2, fun pos' cv hcv => ?_⟩
        · rw [upd_ne (ne_of_none q1 nc), upd_ne y]; exact q1
        · obtain ⟨d, r1, r2⟩ := q3 pos' cv hcv
          exact ⟨d, r1, at' r2⟩
    · have n1 : b ≠ c' := fun y => Nat.lt_irrefl _ (Nat.lt_of_lt_of_le zl (by rw [← y]; exact q))
      have n2 : b ≠ P := fun y => Nat.lt_irrefl _ (Nat.lt_of_lt_of_le (Heap.lt_size oP) (by rw [← y]; exact Nat.le_trans (Nat.le_trans z (Nat.le_of_lt zl)) q))
      rw [upd_ne n1, upd_ne n2]
      exact I.hok.fresh (Nat.le_trans (Nat.le_trans z (Nat.le_of_lt zl)) q)
end
/-- around the body of a def that was handed a lambda, called by X at s -/
abbrev gCx (X : Cx) (N : List Str) (q : Str) (sc : Scope) (g : Addr) (cd : Value) (s : Shared) (H : Hp) : Cx := cxOf C8.CX0 X.prog X.w X.K X.mg X.base N q sc g cd X.A X.stack s H C8.E0
section
variable {X : Cx} {pins : List (Addr × Obj)} {σ : L2.St} {H : Hp} {s : Shared}
/-- the lambda at hand is called; what it may raise is wished for at the slots as they stand -/
theorem pe_actW {Ng : List Str} {qg : Str} {sg : Scope} {g f c' : Addr} {cdg pm ctv : Value} {params : Arguments} {body : Expr} {scope : Scope} {k : Nat} {a : Str} {pn : List (Addr × Obj)} {xe : Value → Shared → Prop} {Wx : L2.WX} {tb : XK → TE} {p1 p2 : Pos}
    (I : L2.Inv X pins σ H s) (L : LamS X.env.scope scope) (hf : s.heap.get? f = some (PySem.W.kla_obj "<lambda>" (X.env.qual ++ "<lambda>") params body scope (cloFrom X.env.cells scope.names []) pm c' ctv)) (hfn : H f = none) (hfr : f ∉ frs X.stack)
    (hbind : bindArgs (PySem.W.kla_fn "<lambda>" (X.env.qual ++ "<lambda>") params body scope (cloFrom X.env.cells scope.names []) pm (.ref c') ctv) ⟨[], []⟩ = pure [])
    (tk : L2.Takes ((gCx X Ng qg sg g cdg s H).tr pn xe) Wx) (hr : Room (k + 1) (X.A.deeper (envOfC qg sg s.heap.objs.size g cdg)))
    (hbody : ∀ (A : Around) (outer : List PySem.Env) (s : Shared) (H : Hp) (E : XK), Room k (A.deeper (lamEnv X scope s.heap.objs.size f c')) → A.guards = X.A.guards → PE (lamCx X A outer s H E scope f c') body (tb E))
    (hN : Ng[0]? = some a) (hv : Vis sg a) (hd : (a == ("__debug__" : Str)) = false) (hcd : (a == ("__classdict__" : Str)) = false) :
    PE ((gCx X Ng qg sg g cdg s H).tr pn xe) (.Call (.Name a p1) [] [] p2) (fun σZ HZ Q => σZ[0]? = some (some (.ref f)) ∧ HZ c' = some (CodeO c' (X.env.qual ++ "<lambda>")) ∧ tb (WE Wx σZ) σ HZ Q) := by
  refine ⟨fun pz sZ σZ HZ Q IZ ⟨at0, hco, ask⟩ => ?_⟩
  apply wpAny_Call_Name_kw
  refine thn ((pe_var (pos := p1) (i := 0) hN hv hd hcd).run pz sZ σZ HZ (fun v H1 => v = .ref f ∧ HZ = H1) IZ ⟨.ref f, at0, rfl, rfl⟩) fun u s1 got => ?_
  obtain ⟨v, H1, I1, rv, ev, eh⟩ := got
  subst ev eh
  cases (show u = Value.ref f from rv)
  have there : s1.heap.get? f = some (PySem.W.kla_obj "<lambda>" (X.env.qual ++ "<lambda>") params body scope (cloFrom X.env.cells scope.names []) pm c' ctv) :=
    I1.base.keep f _ hf hfn hfr fun z => absurd (show f ∈ ([] : List Addr) from z) (by simp)
  apply PySem.W.callWith_F0 ⟨_, _, _, _, there⟩
  have between : Un (frs X.stack) [] H HZ s.heap s1.heap := I1.base
  have code := (I1.hok c' _ hco).1
  obtain ⟨oc, vs, t, e1, e2, e3⟩ := code
  apply wpAny_call
  refine codeAny_mono (?_ : codeAny (model X.prog X.w) (X.A.deeper (envOfC qg sg s.heap.objs.size g cdg)) (.call (.ref f) ⟨[], []⟩) (CR (L2.CX X.prog X.w) (envOfC qg sg s.heap.objs.size g cdg :: X.stack) X.prog X.w HZ s1 Q (WE Wx σZ)) s1) fun r s' hq => ?_
  · apply PySem.W.kla_callFunE hr.depth there rfl L.co L.gen rfl ⟨c', oc, vs, t, rfl, e1, e2, e3⟩
    rw [hbind]
    refine wpAny_pure (wpAny_newFunctionEnv (fun y hy => (L.own y hy).2) (fun y hy => absurd hy (by simp)) (fun h1 ns same => ⟨I1.nolimit.fresh _ same, ?_⟩) L.kind)
    have grown : ∀ b o, s1.heap.get? b = some o → h1.get? b = some o := fun b o e => same.extBut b o (Nat.ne_of_lt (Heap.lt_size e)) (Heap.get?_push_of_some _ e)
    have J := lam_start2 (E := WE Wx σZ) (f := f) (c' := c') (tk := s1.toks + ([] : List (Str × Value)).length) I L I1.env0 hr.hd between ns grown
    show codeAny _ _ (.expr body (lamEnv X scope s1.heap.objs.size f c')) _ _
    apply PySem.W.kla_codeExpr
    refine wpAny_mono ((hbody _ _ s1 HZ (WE Wx σZ) (hr.deeper _) rfl).run [] _ _ HZ Q J ask) (fun v s' got => ?_) fun e s' z => z
    obtain ⟨w', H', J', rv', q⟩ := got
    exact ⟨w', H', J'.os, J'.bare, J'.base, J'.hok, rv', q⟩
  · cases r with
    | error e => exact L2.passAt tk σZ pz HZ s1 e s' I1 hq
    | ok fl =>
      cases fl with
      | ret u => exact I1.after hq
      | next => exact hq.elim
      | brk => exact hq.elim
      | cont => exact hq.elim
end
theorem valsOf_get {ρ : Dn.Env} {i : Nat} {s : Slot} (h : (valsOf ρ)[i]? = some s) : (∃ d, s = .val d ∧ ρ[i]? = some (.val d)) ∨ s = .un := by
  unfold valsOf at h
  rw [List.getElem?_map] at h
  obtain ⟨t, h1, h2⟩ := Option.map_eq_some_iff.mp h
  cases t with
  | val d => exact .inl ⟨d, h2.symm, h1⟩
  | _ => exact .inr h2.symm
/-- fixed things around a lambda's body -/
abbrev rmT (md : Rm) (l : List Bool) : Rm := ⟨l, md.cl, md.T, none, .non, none, none⟩
/-- .. and around the body of a def that was handed one -/
abbrev rmG (md : Rm) (l : List Bool) (f c : Addr) (q : Str) (H : Hp) : Rm := ⟨l, md.cl, md.T, none, .ref f, some (c, q), some H⟩
def ghT (H : Hp) : Gh := { A := fun _ => False, H0 := H, fx := fun _ => none }
theorem RS.vals {G : Gh} {K : PySem.W.Frag} {md : Rm} {σ : L2.St} {ρ : Dn.Env} {H H' : Hp} {l : List Bool} (R : RS G K md σ ρ H) (x : Ext H H') (t : Tabs md.T H') : RS (ghT H') K (rmT md l) σ (valsOf ρ) H' := by
  have no : ∀ {i : Nat} {d : PyData}, (valsOf ρ)[i]? ≠ some (.own d) := fun {i d} h => by
    rcases valsOf_get h with ⟨_, z, _⟩ | z <;> cases z
  refine ⟨by unfold valsOf; rw [List.length_map]; exact R.len, fun i d h => ?_, fun i d h => absurd h no, fun i j b d e h => absurd h no, fun i b d h => absurd h no, fun b h => h, fun b u h _ _ => h, fun i v _ h => (nomatch h), fun i s h z => ?_, ⟨t, fun c q e => nomatch e⟩, fun Ha q => q.elim (fun z => False.elim z) fun z => nomatch z⟩
  · rcases valsOf_get h with ⟨d', z, h1⟩ | z
    · cases z
      obtain ⟨v, h2, h3⟩ := R.val i d h1
      exact ⟨v, h2, h3.mono x⟩
    · cases z
  · rcases valsOf_get h with ⟨d', y, _⟩ | y <;> (subst y; cases z)
theorem RS.grT {K : PySem.W.Frag} {md : Rm} {σ : L2.St} {ρ : Dn.Env} {H H' : Hp} (R : RS (ghT H) K md σ ρ H') : GrT H H' := ⟨fun b u h n => R.keep b u h (fun z => z) n, R.thr⟩
theorem GrT.fr {H H' : Hp} (g : GrT H H') (σ : L2.St) (ρ : Dn.Env) : Dn.Fr σ ρ H H' := ⟨fun b u h _ n => g.1 b u h n, g.2⟩
section
variable {X : Cx} {G0 : Gh} {σ : L2.St} {ρ1 : Dn.Env} {H2 : Hp} {md : Rm} {lT lG : List Bool} {enT en : En} {m : ME} {Wx : L2.WX}
/-- call(), within such a def -/
theorem pd_act {Z : Cx} {e : Expr} {f c' : Addr} {q : Str} (hK : Z.K = X.K) (R0 : RS G0 X.K md σ ρ1 H2)
    (ha : en.act = match evalE lT enT m (valsOf ρ1) with | .ok e _ => .ok e [] | .exc x _ => .exc x [] | .stuck => .stuck)
    (h : PE Z e (fun σZ HZ Q => σZ[0]? = some (some (.ref f)) ∧ HZ c' = some (CodeO c' q) ∧ tE X.K (rmT md lT) (fun cls d _ H' => WE Wx σZ cls d H') (evalE lT enT m) σ HZ Q)) : PD (rmG md lG f c' q H2) en Wx Z e .act := by
  refine PE.imp h fun σZ HZ Q ⟨G, ρ, R, w⟩ => ?_
  rw [hK] at R w
  have w : Want (ExO G X.K (rmG md lG f c' q H2) Wx) (match (ρ[0]? : Option Slot) with
    | some Slot.clo => match en.act with
      | .ok (.al _) _ => Res.stuck
      | .ok e _ => .ok e ρ
      | .exc x _ => .exc x ρ
      | .stuck => .stuck
    | _ => .stuck) (Aft G X.K (rmG md lG f c' q H2) σZ ρ HZ Q) := w
  cases e0 : (ρ[0]? : Option Slot) with
  | none => rw [e0] at w; exact False.elim w
  | some s0 =>
    rw [e0] at w
    cases s0 with
    | clo =>
      obtain ⟨v0, h1, h2⟩ := R.oth 0 _ e0 rfl
      cases (show v0 = V.ref f from h2)
      have x : Ext H2 HZ := R.anc H2 (.inr rfl)
      refine ⟨h1, R.gl.2 c' q rfl, ghT HZ, valsOf ρ1, R0.vals x R.gl.1, ?_⟩
      cases z : evalE lT enT m (valsOf ρ1) with
      | stuck => rw [z] at ha; rw [ha] at w; exact False.elim w
      | exc y ρ' =>
        rw [z] at ha; rw [ha] at w
        intro σ' cls d H' R' rx
        exact (show ExO G X.K (rmG md lG f c' q H2) Wx y ρ from w) σZ cls d H' (R.growT R'.grT R'.gl.1) rx
      | ok ev ρ' =>
        rw [z] at ha; rw [ha] at w
        intro v H' fr sb R' rep
        cases ev with
        | al i => exact False.elim w
        | val d => exact (show Aft G X.K (rmG md lG f c' q H2) σZ ρ HZ Q (.val d) ρ from w) v H' (R'.grT.fr _ _) (Sub.refl _) (R.growT R'.grT R'.gl.1) rep
        | fr d => exact (show Aft G X.K (rmG md lG f c' q H2) σZ ρ HZ Q (.fr d) ρ from w) v H' (R'.grT.fr _ _) (Sub.refl _) (R.growT R'.grT R'.gl.1) rep
    | _ => exact False.elim w
end
section
variable {X : Cx} {md : Rm} {en : En} {Wx : L2.WX}
/-- g(lambda: body) -/
theorem pd_lam {W : Nat} {x a : Str} {gA c P : Addr} {k fi ti : Nat} {fdG fdT : FD} {eng : CRes → En} {enT : En} {m : ME} {st : Stmt} {fdata : FuncData} {Ng : List Str} {params : Arguments} {body : Expr} {scope : Scope} {ls : List Nat} {p lpos pos : Pos}
    (hg : Gl X x) (hm : X.mg x = some (.ref gA)) (F : Fun X.K x x st gA fdata) (hb : L2.Binds X.K fdata [a] []) (Sg : FnScope Ng [a] (defScope st)) (hNg : Ng[0]? = some a) (hva : Vis (defScope st) a) (hnG : fdG.ns = Ng.length)
    (TB : TabB X.base X.mg c P) (hcode : X.env.code = .ref c) (hmT : (P, X.env.qual ++ "<lambda>") ∈ md.T) (hu : ∀ p ∈ md.T, p.1 = P → p.2 = X.env.qual ++ "<lambda>") (hr : Room (k + 2) X.A) (L : LamS X.env.scope scope) (hdef : defaultsOf params X.env = ([], []))
    (hbind : ∀ (q : Str) (cl : List (Str × Addr)) (pm cv ctv : Value), bindArgs (PySem.W.kla_fn "<lambda>" q params body scope cl pm cv ctv) ⟨[], []⟩ = pure [])
    (hlam : ∀ r, en.lam fi r = runL W (eng r) fdG) (hact : ∀ r, (eng r).act = r) (hth : ∀ ss, en.thunk ti ss = runT W enT fdT ss) (hT : fdT.body = [.ret m])
    (hbody : ∀ (A : Around) (outer : List PySem.Env) (s : Shared) (H : Hp) (E : XK) (f c' : Addr), Room k (A.deeper (lamEnv X scope s.heap.objs.size f c')) → A.guards = X.A.guards → L2.Takes (lamCx X A outer s H E scope f c') (fun cls d _ H => E cls d H) →
      PD (rmT md fdT.md) enT (fun cls d _ H => E cls d H) (lamCx X A outer s H E scope f c') body m)
    (hgb : ∀ (cdv : Value) (s : Shared) (H : Hp) (r : CRes) (f c' : Addr),
      (∀ (W' : L2.WX) (pn : List (Addr × Obj)) (xe : Value → Shared → Prop) (p1 p2 : Pos), L2.Takes ((gCx X Ng x (defScope st) gA cdv s H).tr pn xe) W' → PD (rmG md fdG.md f c' (X.env.qual ++ "<lambda>") H) (eng r) W' ((gCx X Ng x (defScope st) gA cdv s H).tr pn xe) (.Call (.Name a p1) [] [] p2) .act) →
      BD W (rmG md fdG.md f c' (X.env.qual ++ "<lambda>") H) (eng r) W0 (gCx X Ng x (defScope st) gA cdv s H) (defBody st) fdG.body)
    (hdb : (x == ("__debug__" : Str)) = false := by decide) (hd : (a == ("__debug__" : Str)) = false := by decide) (hcd : (a == ("__classdict__" : Str)) = false := by decide) :
    PD md en Wx X (.Call (.Name x p) [.Lambda params body scope lpos] [] pos) (.lam fi ls ti) := by
  obtain ⟨oc, od, kV, doc, pm, an, cdv, ct, osl, rfl, lk, hcg⟩ := F.ex
  refine ⟨fun pins s σ H Q I h => ?_⟩
  obtain ⟨G, ρ, R, w⟩ := h
  obtain ⟨H1, I1, fr1, sb1, R1⟩ := lock_all (ls := ls) I R
  have w : Want (ExO G X.K md Wx) (match en.lam fi (en.thunk ti (valsOf (lockAll ls ρ))) with
    | .ok (.al _) _ => Res.stuck
    | .ok e _ => .ok e (lockAll ls ρ)
    | .exc _ _ => .stuck
    | .stuck => .stuck) (Aft G X.K md σ ρ H Q) := w
  generalize lockAll ls ρ = ρ1 at R1 sb1 w
  rw [hlam] at w
  apply wpAny_Call_Name_kw
  refine ld_glob I1 hg hm ?_ hdb
  refine PySem.W.callWith_K (h₀ := X.base) I.ok.mod.kin F.kp ?_ (by rfl) (by rfl)
  show wpAny _ _ (spliced ((false, eval (.Lambda params body scope lpos) X.env) :: backTo pos (starEach [] X.env))) _ _ s
  apply PySem.Calls.spliced_cons
  refine lam_made I1 TB hcode hmT hu R1.gl.1 hdef (L.has I.ok) fun f c' pm' ctv H2 s' I2 g2 T2 hf hfn hfr hco => ?_
  apply PySem.Calls.spliced_nil
  refine ⟨I2.kIn, ?_⟩
  have R2 := R1.growT g2 T2
  have fr2 : Dn.Fr σ ρ H H2 := fr1.trans sb1 (g2.fr _ _)
  let r : CRes := en.thunk ti (valsOf ρ1)
  have rc : codeAny (model X.prog X.w) X.A (.call (.ref gA) ⟨[.ref f], []⟩) (CR C8.CX0 X.stack X.prog X.w H2 s' Q C8.E0) s' := by
    refine run_ofS (N := Ng) (ps := [a]) (us := [.ref f]) (vs := [.ref f]) lk hcg Sg hr I2.env0 (hb s' [.ref f] I2.kIn rfl) (.cons rfl .nil) rfl fun hr' => ?_
    have hB := hgb cdv s' H2 r f c' fun W' pn xe p1 p2 tk => by
      refine pd_act (X := X) (m := m) (enT := enT) (lT := fdT.md) rfl R2 ?_ (pe_actW (p1 := p1) (p2 := p2) (tb := fun E => tE X.K (rmT md fdT.md) (fun cls d _ H' => E cls d H') (evalE fdT.md enT m)) I2 L hf hfn hfr (hbind _ _ _ _ _) tk hr' (fun A outer s H E hr2 hg2 => hbody A outer s H E f c' ⟨hr2.hd, hr2.dp, hr2.un⟩ hg2 (takes_of rfl rfl rfl rfl)) hNg hva hd hcd)
      rw [hact]
      show en.thunk ti (valsOf ρ1) = _
      rw [hth]
      unfold runT
      rw [hT]
      all_goals (show (match evalE fdT.md enT m (valsOf ρ1) with | .ok e _ => CRes.ok e [] | .exc x _ => .exc x [] | .stuck => .stuck) = _; cases evalE fdT.md enT m (valsOf ρ1) <;> rfl)
    have RG : RS (ghT H2) X.K (rmG md fdG.md f c' (X.env.qual ++ "<lambda>") H2) (L2.start Ng [.ref f]) (.clo :: List.replicate (fdG.ns - 1) .un) H2 := by
      have un : ∀ {i : Nat} {s : Slot}, (Slot.clo :: List.replicate (fdG.ns - 1) Slot.un)[i]? = some s → s = .un ∨ (s = .clo ∧ i = 0) := fun {i s} h => by
        cases i with
        | zero => simp at h; exact .inr ⟨h.symm, rfl⟩
        | succ i =>
          rw [List.getElem?_cons_succ, List.getElem?_replicate] at h
          split at h
          · cases h; exact .inl rfl
          · cases h
      have hl : 0 < Ng.length := (List.getElem?_eq_some_iff.mp hNg).1
      refine ⟨?_, fun i d h => ?_, fun i d h => ?_, fun i j b d e h => ?_, fun i b d h => ?_, fun b h => h, fun b u h _ _ => h, fun i v _ h => (nomatch h), fun i s h z => ?_, ⟨T2, fun c q e => by cases e; exact hco⟩, fun Ha q => q.elim (fun z => False.elim z) fun z => by cases z; exact Ext.refl _⟩
      · unfold L2.start
        simp only [List.length_append, List.length_map, List.length_replicate, List.length_cons, List.length_nil]
        omega
      · rcases un h with z | ⟨z, _⟩ <;> cases z
      · rcases un h with z | ⟨z, _⟩ <;> cases z
      · rcases un h with z | ⟨z, _⟩ <;> cases z
      · rcases un h with z | ⟨z, _⟩ <;> cases z
      · rcases un h with y | ⟨y, y2⟩
        · subst y; cases z
        · subst y y2
          exact ⟨.ref f, start_get rfl, rfl⟩
    refine ⟨_, hB, ghT H2, _, RG, ?_⟩
    have fin : ∀ {σ' : L2.St} {ρ' : Dn.Env} {v : V} {H' : Hp} {e : EV}, RS (ghT H2) X.K (rmG md fdG.md f c' (X.env.qual ++ "<lambda>") H2) σ' ρ' H' → Aft G X.K md σ ρ H Q e ρ1 → (match e with | .val d => Rep X.K H' v d | .fr d => RepO X.K H' v d ∧ ∃ b, v = .ref b ∧ H2 b = none | .al _ => False) → Q v H' := fun {σ' ρ' v H' e} R' p rep => by
      have g : GrT H2 H' := R'.grT
      have R3 := R2.growT g R'.gl.1
      have fr3 : Dn.Fr σ ρ H H' := fr2.trans sb1 (g.fr _ _)
      cases e with
      | val d => exact p v H' fr3 sb1 R3 rep
      | fr d =>
        obtain ⟨ro, b, e1, e2⟩ := rep
        exact p v H' fr3 sb1 R3 ⟨b, e1, fr2.2 b e2, ro⟩
      | al i => exact False.elim rep
    unfold runL at w
    show Want (ExO (ghT H2) X.K (rmG md fdG.md f c' (X.env.qual ++ "<lambda>") H2) W0) (execSs W fdG.md (eng r) fdG.body (.clo :: List.replicate (fdG.ns - 1) .un)) _
    cases z : execSs W fdG.md (eng r) fdG.body (.clo :: List.replicate (fdG.ns - 1) .un) with
    | stuck => rw [show en.thunk ti (valsOf ρ1) = r from rfl, z] at w; exact False.elim w
    | exc y ρ' => rw [show en.thunk ti (valsOf ρ1) = r from rfl, z] at w; exact False.elim w
    | ok fl ρ' =>
      rw [show en.thunk ti (valsOf ρ1) = r from rfl, z] at w
      cases fl with
      | brk => exact False.elim w
      | cnt => exact False.elim w
      | nx => exact fun σ' H' R' _ => fin (e := .val .none) R' w .non
      | ret e =>
        intro σ' v H' R' rr
        cases e with
        | val d => exact fin (e := .val d) R' w rr
        | fr d => exact fin (e := .fr d) R' w ⟨rr.1, rr.2⟩
        | al i =>
          have rr : σ'[i]? = some (some v) := rr
          have w : Want (ExO G X.K md Wx) (match (match ρ'[i]? with | some (.own d) => CRes.ok (.fr d) [] | some (.val d) => .ok (.val d) [] | _ => .stuck) with
            | .ok (.al _) _ => Res.stuck
            | .ok e _ => .ok e ρ1
            | .exc _ _ => .stuck
            | .stuck => .stuck) (Aft G X.K md σ ρ H Q) := w
          cases y : ρ'[i]? with
          | none => rw [y] at w; exact False.elim w
          | some t =>
            rw [y] at w
            cases t with
            | val d =>
              obtain ⟨v', e1, e2⟩ := R'.val i d y
              rw [rr] at e1; cases e1
              exact fin (e := .val d) R' w e2
            | own d =>
              obtain ⟨v', e1, e2⟩ := R'.own i d y
              rw [rr] at e1; cases e1
              obtain ⟨b, u1, rfl, h4, rs⟩ := e2
              have hb0 : H2 b = none := by
                rcases R'.adr i b _ y rr with ⟨q, _⟩ | q
                · exact False.elim q
                · exact q
              exact fin (e := .fr d) R' w ⟨⟨b, u1, rfl, h4, rs⟩, b, rfl, hb0⟩
            | _ => exact False.elim w
  refine wpAny_call (codeAny_mono rc fun r s2 hq => ?_)
  cases r with
  | error e => exact (show False from hq).elim
  | ok fl =>
    cases fl with
    | ret u => exact I2.after hq
    | next => exact False.elim hq
    | brk => exact False.elim hq
    | cont => exact False.elim hq
/-- .. at a level that has room for it -/
theorem pd_lamE {W k fi ti : Nat} {T : List FD} {e : Expr} {ls : List Nat} {md : Rm} {Wx : L2.WX} {r : CRes} (h : ∀ j, k = j + 3 → PD md (enK W T k r) Wx X e (.lam fi ls ti)) : PD md (enK W T k r) Wx X e (.lam fi ls ti) := by
  by_cases z : 3 ≤ k
  · exact h (k - 3) (by omega)
  · refine ⟨fun pins s σ H Q I ⟨G, ρ, R, w⟩ => False.elim ?_⟩
    have e : (enK W T k r).lam fi ((enK W T k r).thunk ti (valsOf (lockAll ls ρ))) = .stuck := by
      show (if 3 ≤ k then lamF W T k fi _ else CRes.stuck) = _
      rw [if_neg z]
    have w : Want (ExO G X.K md Wx) (match (enK W T k r).lam fi ((enK W T k r).thunk ti (valsOf (lockAll ls ρ))) with
      | .ok (.al _) _ => Res.stuck
      | .ok e _ => .ok e (lockAll ls ρ)
      | .exc _ _ => .stuck
      | .stuck => .stuck) (Aft G X.K md σ ρ H Q) := w
    rw [e] at w
    exact w
theorem lam_at {W j f : Nat} {T : List FD} {fd : FD} {r0 r : CRes} (h : T[f]? = some fd) : (enK W T (j + 3) r0).lam f r = runL W (enK W T (j + 2) r) fd := by
  show (if 3 ≤ j + 3 then lamF W T (j + 3) f r else CRes.stuck) = _
  rw [if_pos (by omega), lamF_succ, h]
theorem thunk_at {W j g : Nat} {T : List FD} {fd : FD} {r0 : CRes} {ss : List Slot} (h : T[g]? = some fd) : (enK W T (j + 3) r0).thunk g ss = runT W (enT T (callF W T (j + 1)) (callF W T (j - 1)) (decide (4 ≤ j + 3))) fd ss := by
  show (match T[g]? with | some fd => runT W (enT T (callF W T (j + 1)) (callF W T (j - 1)) (decide (4 ≤ j + 3))) fd ss | none => .stuck) = _
  rw [h]
end
end Dn
/-! Den19: the law's end where lambdas are made -/
namespace Dn
open PySem PySem.Spec PyProof.Rows L2 LamX

/-- the script and the tables told in the abstract heap -/
def toldT (K : PySem.W.Frag) (a : Addr) (o : Obj) (xs : List V) (Ps : List Addr) : Hp := fun b => if b ∈ Ps then some (.tbl #[]) else told K a o xs b
theorem toldT_inv {K : PySem.W.Frag} {a b : Addr} {o : Obj} {xs : List V} {Ps : List Addr} {u : HO} (h : toldT K a o xs Ps b = some u) : (b ∈ Ps ∧ u = .tbl #[]) ∨ (b ∉ Ps ∧ b = a ∧ u = .frz o (.lst xs) ∧ K.lookup a = none) := by
  unfold toldT at h
  by_cases e : b ∈ Ps
  · rw [if_pos e] at h; cases h; exact .inl ⟨e, rfl⟩
  · rw [if_neg e] at h
    obtain ⟨h1, h2, h3⟩ := told_inv h
    exact .inr ⟨e, h1, h2, h3⟩
theorem law_endT {P : Program} {w : World} {K : PySem.W.Frag} {mg mb : Str → Option Value} {k : Nat} {fa a : Addr} {g : FuncData} {x : Str} {md : List Bool} {cl : List (Addr × Option Str)} {f : List Slot → CRes} {s : Shared} {vs : List Value} {ns : List Int} {cs : List (Addr × Addr × Str)}
    (KX : K.In s.heap) (nsM : s.heap.Ns mainGlobals mg) (nsB : s.heap.Ns builtinsNs mb) (boot : ∀ y : Str, y ≠ "__name__" → mb y = bootBuiltins y) (lim : s.heap.NoLimit) (noG : s.gens = #[])
    (hC : ∀ p ∈ cs, PySem.W.CodeHd s.heap p.1 p.2.1 ∧ s.heap.get? p.2.1 = some (PySem.W.tabObj #[])) (nT : ∀ p ∈ cs, K.lookup p.2.1 = none)
    (hbm : ∃ (bm : Addr) (ob : Obj), mg "__builtins__" = some (.ref bm) ∧ bm ≠ builtinsNs ∧ s.heap.get? bm = some ob ∧ ob.cls = .type "module" ∧ ob.dict = some builtinsNs ∧ ob.data = .plain)
    (ha : s.heap.get? a = some { cls := .type "list", data := .seq vs.toArray }) (hi : IntsAre vs ns) (hl : ns.length ≤ sizeLine) (room : Room k callerA)
    (F : ∀ base : Heap, K.In base → base.Ns mainGlobals mg → (∀ p ∈ cs, TabB base mg p.1 p.2.1) → FnG P w K mg base k fa g [x] (spF K cl (cs.map (·.2)) md f)) (binds : ∀ (s : Shared) (u : Value), BindsTo s g ⟨[u], []⟩ [(x, u)])
    (law : ∃ out, f [.val (.list (ns.map .int))] = .ok (.val (.bool true)) out) :
    codeAny (model P w) callerA (.call (.ref fa) ⟨[.ref a], []⟩) (fun r s' => r = .ok (.ret (.bool true)) ∧ OldK s.heap s'.heap ∧ s'.os = s.os ∧ AllBare s'.gens) s := by
  let o : Obj := { cls := .type "list", data := .seq vs.toArray }
  let Ps : List Addr := cs.map (·.2.1)
  let H : Hp := toldT K a o (ns.map .int) Ps
  have tabs : ∀ b ∈ Ps, ∃ p ∈ cs, p.2.1 = b := fun b hb => by
    obtain ⟨p, hp, e⟩ := List.mem_map.mp hb
    exact ⟨p, hp, e⟩
  have isT : ∀ b ∈ Ps, s.heap.get? b = some (PySem.W.tabObj #[]) := fun b hb => by
    obtain ⟨p, hp, e⟩ := tabs b hb
    rw [← e]; exact (hC p hp).2
  have aT : a ∉ Ps := fun z => by
    have q := isT a z
    rw [ha] at q
    cases q
  have fz : FzL K H a (ns.map .int) := by
    rcases told_fz KX ha hi hl with ⟨o', q⟩ | q
    · exact .inl ⟨o', by show (if a ∈ Ps then _ else _) = _; rw [if_neg aT]; exact q⟩
    · exact .inr q
  have hok : HOk P w H s.heap := fun b u z => by
    rcases toldT_inv z with ⟨e, rfl⟩ | ⟨_, rfl, rfl, _⟩
    · exact isT b e
    · exact ⟨ha, by rw [List.length_map]; exact hl, vs, _, vals_ints hi, ha⟩
  -- what is neither script nor table stands in the base
  have free : ∀ {b : Addr} {ob : Obj}, s.heap.get? b = some ob → (b = a → K.lookup a ≠ none) → b ∉ Ps → (hidT s.heap H).get? b = some ob := fun {b ob} e n n2 => hidT_get e (by
    cases q : H b with
    | none => rfl
    | some u =>
      rcases toldT_inv q with ⟨e1, _⟩ | ⟨_, e1, _, e2⟩
      · exact absurd e1 n2
      · exact absurd e2 (n e1))
  have nTab : ∀ {b : Addr} {ob : Obj}, s.heap.get? b = some ob → ob ≠ PySem.W.tabObj #[] → b ∉ Ps := fun {b ob} e n z => by
    rw [isT b z] at e
    cases e
    exact n rfl
  have nScr : ∀ {b : Addr} {ob : Obj}, s.heap.get? b = some ob → (∀ vs n, ob.data ≠ .seq vs n) → b = a → K.lookup a ≠ none := fun {b ob} e n z => by
    subst z
    rw [ha] at e
    cases e
    exact absurd rfl (n _ _)
  have inB : K.In (hidT s.heap H) := fun b ob e => free (KX b ob e) (fun z => by
    rw [← z, e]
    simp) fun z => by
      obtain ⟨p, hp, ep⟩ := tabs b z
      rw [← ep, nT p hp] at e
      cases e
  have nsOf : ∀ {b : Addr} {m : Str → Option Value}, s.heap.Ns b m → (hidT s.heap H).Ns b m := fun {b m} ⟨ob, es, ep, e, d, r⟩ =>
    ⟨ob, es, ep, free e (nScr e fun vs n z => by rw [d] at z; cases z) (nTab e fun z => by rw [z] at d; cases d), d, r⟩
  have mod : Mod K mg (hidT s.heap H) := ⟨inB, nsOf nsM, ⟨mb, nsOf nsB, boot⟩, lim.elim fun mc q => ⟨mc, nsOf q.1, q.2⟩⟩
  have env0 : Env0 P w K mg (hidT s.heap H) callerA [] s H :=
    ⟨rfl, mod, fun b ob e => of_hidT e, Nat.le_of_eq (hidT_size _ _), trivial, fun b z => absurd z (by show b ∉ ([] : List Addr); simp), hok, .of_eq noG⟩
  have TB : ∀ p ∈ cs, TabB (hidT s.heap H) mg p.1 p.2.1 := fun p hp => by
    obtain ⟨ho, hT⟩ := hC p hp
    refine ⟨?_, ?_, fun z => ?_⟩
    · obtain ⟨o', us, file, tf, flags, tg, inF, text, tt, e1, r1, r2, r3, r4⟩ := ho
      refine ⟨o', us, file, tf, flags, tg, inF, text, tt, free e1 (nScr e1 fun vs n z => by rw [r2] at z; cases z) (nTab e1 fun z => by rw [z] at r1; cases r1), r1, r2, r3, r4⟩
    · obtain ⟨bm, ob, b1, b2, b3, b4, b5, b6⟩ := hbm
      have nG : bm ≠ mainGlobals := fun q => by
        obtain ⟨o', es, ep, e, hd, _⟩ := nsM
        rw [q, e] at b3
        cases b3
        rw [hd] at b6
        cases b6
      have nP : bm ≠ p.2.1 := fun q => by
        rw [q, hT] at b3
        cases b3
        cases b6
      exact ⟨bm, ob, b1, b2, nG, nP, free b3 (nScr b3 fun vs n z => by rw [b6] at z; cases z) (nTab b3 fun z => by rw [z] at b6; cases b6), b4, b5, b6⟩
    · obtain ⟨o', es, ep, e, hd, _⟩ := nsM
      rw [z, hT] at e
      cases e
      cases hd
  have ask : spF K cl (cs.map (·.2)) md f [.ref a] H (fun v _ => v = .bl true) fun _ _ _ => False := by
    refine ⟨[.val (.list (ns.map .int))], ⟨.cons (.lst fz (reps_ints ns)) .nil, fun i j b d e h1 => ?_, fun i d h1 => ?_⟩, fun p hp => ?_, ?_⟩
    · match i with
      | 0 => simp at h1
      | i + 1 => simp at h1
    · match i with
      | 0 => simp at h1
      | i + 1 => simp at h1
    · obtain ⟨q, hq, e⟩ := List.mem_map.mp hp
      refine TabS.nil (if_pos (List.mem_map.mpr ⟨q, hq, by rw [← e]⟩))
    · obtain ⟨out, e⟩ := law
      rw [e]
      intro v H' _ _ r _
      cases (show Rep K H' v (.bool true) from r)
      rfl
  refine codeAny_mono ((F _ inB (nsOf nsM) TB).run callerA [] s H ⟨[.ref a], []⟩ [.ref a] [.ref a] _ _ room rfl env0 (binds s (.ref a)) (.cons rfl .nil) ask) fun r s' z => ?_
  cases r with
  | error e =>
    obtain ⟨_, _, _, _, _, _, _, _, _, _, _, _, q⟩ := z
    exact False.elim q
  | ok fl =>
    cases fl with
    | next => exact False.elim z
    | brk => exact False.elim z
    | cont => exact False.elim z
    | ret u =>
      obtain ⟨v, H', os, bare, un, hok', rv, e⟩ := z
      cases (show v = .bl true from e)
      cases (show u = Value.bool true from rv)
      have old : ∀ b ob, b ∉ Ps → s.heap.get? b = some ob → s'.heap.get? b = some ob := fun b ob nb e => by
        cases q : H b with
        | none => exact un.keep b ob e q (fun z => absurd z (by show b ∉ ([] : List Addr); simp)) (by simp)
        | some u =>
          rcases toldT_inv q with ⟨z, _⟩ | ⟨_, rfl, rfl, _⟩
          · exact absurd z nb
          · have was := (hok _ _ q).1
            rw [e] at was
            cases was
            exact (hok' _ _ (un.frzs _ _ _ q)).1
      have grown : ∀ b ∈ Ps, ∃ more : Array Value, s'.heap.get? b = some { cls := .none, data := .fields more } := fun b hb => by
        obtain ⟨more, z⟩ := un.tbls b #[] (if_pos hb)
        exact ⟨_, hok' b _ z⟩
      refine ⟨rfl, ⟨fun b ob e => ?_, fun b ob e => ?_⟩, os, bare⟩
      · by_cases hb : b ∈ Ps
        · obtain ⟨more, hm⟩ := grown b hb
          have eT := isT b hb
          rw [e] at eT
          cases eT
          obtain ⟨p, hp, ep⟩ := tabs b hb
          subst ep
          exact .inr (.inl ⟨((hC p hp).1.tab (hC p hp).2).isCodeTable, rfl, #[], more, rfl, by rw [Array.empty_append]; exact hm⟩)
        · exact .inl (old b ob hb e)
      · by_cases hb : b ∈ Ps
        · obtain ⟨more, hm⟩ := grown b hb
          exact ⟨_, hm⟩
        · exact ⟨ob, old b ob hb e⟩
theorem law_walkT {l : PySem.W.OpenLaw} {n k : Nat} {q : Program} {loose : List Str} {XP : (Str → Option Value) → Heap → Prop} {YP : World → Heap → Prop} {d : DefRec} {K : Params → PySem.W.Frag} {x : Str} {md : List Bool} {f : List Slot → CRes}
    (hn : l.most = some n) (hn2 : n ≤ sizeLine) (hdf : d.params.defaults = []) (room : Room k callerA) (hY : ∀ (w : World) (h : Heap), YP w h → (K w.params).In h)
    (law : ∀ ns : List Int, ns.length ≤ n → ∃ out, f [.val (.list (ns.map .int))] = .ok (.val (.bool true)) out)
    (F : ∀ (w : World) (mg mb : Str → Option Value) (fa : Addr) (h : Heap) (mean : ExcName → Option Value), (K w.params).In h → Top q (PySem.W.looseW q loose) mean mg mb h → mg d.name = some (.ref fa) →
      ∃ (g : FuncData) (cl : List (Addr × Option Str)) (cs : List (Addr × Addr × Str)), (∀ (s : Shared) (u : Value), BindsTo s g ⟨[u], []⟩ [(x, u)]) ∧ (∀ p ∈ cs, PySem.W.CodeHd h p.1 p.2.1 ∧ h.get? p.2.1 = some (PySem.W.tabObj #[])) ∧ (∀ p ∈ cs, (K w.params).lookup p.2.1 = none) ∧
        ∀ base : Heap, (K w.params).In base → base.Ns mainGlobals mg → (∀ p ∈ cs, TabB base mg p.1 p.2.1) → FnG l.prog w (K w.params) mg base k fa g [x] (spF (K w.params) cl (cs.map (·.2)) md f)) :
    PySem.W.WalkO q loose XP YP l.row.toRowW d [] (fun f vs => PySem.call f vs) :=
  Att.attach_call hn hdf fun w s₀ s₁ mg mb fa o pm cd doc a vs ns G Y ho hd hcd hmg hobj hints hlen hg => by
    obtain ⟨g, cl, cs, binds, hC, nT, Fs⟩ := F w mg mb fa _ _ (hY w _ Y) G.T hmg
    exact law_endT (hY w _ Y) G.T.g G.T.b G.T.builtins G.T.nolimit hg hC nT G.T.bmain hobj hints (Nat.le_trans hlen hn2) room Fs binds (law ns hlen)
end Dn
/-! Den24: enumerate of a tuple -/
namespace Dn
open PySem PySem.Spec PyProof.Rows L2
theorem enum_new1 {v : Value} {o : Obj} {H : Heap → Prop} (B : Begins v o H) :
    Meets (Builtin.«enumerate.__new__» ⟨[.type "enumerate", v], []⟩) (fun _ R s => H s.heap ∧
      R (.ok (.ret (.ref (s.heap.push o).objs.size))) { s with heap := (s.heap.push o).push { cls := .type "enumerate", data := .fields #[.none, .bool false, .ref s.heap.objs.size, rawInt 0, .none, .none] } }) :=
  .of_wp fun prog w A R s h => by
    obtain ⟨hp, g, d, tk, os⟩ := s; obtain ⟨h1, h⟩ := h
    have hsub := PySem.sub_enumerate
    have q1 : ∀ {A' : Around} {E : Value → Shared → Prop} {Q : Value → Shared → Prop}, Q (.ref hp.objs.size) ⟨hp.push o, g, d, tk, os⟩ → wpAny (model prog w) A' (pyIter v) Q E ⟨hp, g, d, tk, os⟩ :=
      fun q => B.iter prog w _ _ ⟨hp, g, d, tk, os⟩ _ h1 q
    wp_walk using q1
    refine wpAny_stack_any fun st => wpAny_pure ?_
    split
    · rename_i c _ _ _ _ _
      cases (c == Value.type "enumerate")
      · wp_walk using q1
        exact ⟨_, rfl, h⟩
      · wp_walk using q1
        exact ⟨_, rfl, h⟩
    · wp_walk using q1
      exact ⟨_, rfl, h⟩
theorem call_enum1 {prog : Program} {w : World} {A : Around} {E : Value → Shared → Prop} {s : Shared} {v : Value} {o : Obj} {H : Heap → Prop} {Q : Value → Shared → Prop} (B : Begins v o H) (h1 : H s.heap)
    (h : ∀ h', IsEnum h' (s.heap.objs.size + 1) s.heap.objs.size 0 .none → h'.get? s.heap.objs.size = some o → (∀ b o, s.heap.get? b = some o → h'.get? b = some o) → Q (.ref (s.heap.objs.size + 1)) { s with heap := h' }) :
    wpAny (model prog w) A (call (.type "enumerate") [v]) Q E s := by
  refine callType_new F.called_enumerate (by decide) (F.typeCall_enumerate_1 _) (F.newCall_enumerate_1 _) (fun obj => F.args_object_init_2 obj _) F.entry_enumerate_new (enum_new1 B) ⟨h1, ?_⟩
  have hz : (s.heap.push o).objs.size = s.heap.objs.size + 1 := Heap.size_push ..
  show _ ∧ _
  rw [hz]
  have he : IsEnum ((s.heap.push o).push { cls := .type "enumerate", data := .fields #[.none, .bool false, .ref s.heap.objs.size, rawInt 0, .none, .none] }) (s.heap.objs.size + 1) s.heap.objs.size 0 .none := by
    have := Heap.get?_push_size (s.heap.push o) (o := { cls := .type "enumerate", data := .fields #[.none, .bool false, .ref s.heap.objs.size, rawInt 0, .none, .none] }) rfl
    rw [hz] at this; exact this
  exact ⟨⟨_, he, rfl⟩, h _ he (Heap.get?_push_of_some _ (Heap.get?_push_size _ B.free)) fun b o x => Heap.get?_push_of_some _ (Heap.get?_push_of_some _ x)⟩
/-- the tuple at a, each item in a new pair -/
def IteT (K : PySem.W.Frag) (a : Addr) : It :=
  ⟨fun i H => ∃ (xs : List V) (x : V), SqT K H a xs ∧ xs[i]? = some x, fun i H v H' => ∃ T x, v = .ref T ∧ H T = none ∧ H' = upd H T (.tup [.int (i : Nat), x]) ∧ ∀ xs, SqT K H a xs → xs[i]? = some x, fun i H => ∃ xs : List V, SqT K H a xs ∧ xs.length = i⟩
theorem turn_enumT {P : Program} {w : World} {K : PySem.W.Frag} {elts : List Expr} {kk : Nat} {tpos : Pos} (a e it : Addr) :
    Turn P w K (.Tuple elts kk tpos) (IteT K a) [e, it] e (fun i h => (∃ old, IsEnum h e it ((i : Nat) : Int) old) ∧ h.IsTupleIter it a i ∧ e ≠ it) where
  mem := by simp
  obj := fun i h st b hb => by
    obtain ⟨⟨old, he⟩, ⟨o, ho, hc, hd⟩, _⟩ := st
    have e' : b = e ∨ b = it := by simpa using hb
    rcases e' with z | z
    · rw [z]; exact ⟨_, he, fun v q => nomatch q⟩
    · rw [z]; exact ⟨o, ho, fun v q => by rw [hd] at q; cases q⟩
  keep := fun i h h' st k => let ⟨⟨old, he⟩, hi, hne⟩ := st; ⟨⟨old, k e (by simp) _ he⟩, hi.at fun o q => k it (by simp) o q, hne⟩
  item := by
    intro X hP hw hK hc i pins s σ H E I hf st hg
    subst hP hw hK
    obtain ⟨⟨old, he⟩, hit, hne⟩ := st
    obtain ⟨xs, x, hq, hx⟩ := hg
    obtain ⟨its, rv, ⟨ot, hot, hct, nt, hdt⟩, hz⟩ := I.tuple hq
    obtain ⟨u, hu, ru⟩ := rv.get hx
    have hel : e < s.heap.objs.size := Heap.lt_size he
    have hil : it < s.heap.objs.size := by obtain ⟨_, q, _⟩ := hit; exact Heap.lt_size q
    have hT0 : s.heap.IsTuple a its.toArray := ⟨ot, hot, hct, nt, hdt⟩
    have ai : a ≠ it := fun z => by
      obtain ⟨oi, q, qc, _⟩ := hit
      rw [← z, hot] at q
      cases q
      rw [hct] at qc
      exact absurd (Value.type.inj qc) (by decide)
    have ea : e ≠ a := fun z => by
      have he' : s.heap.get? e = some _ := he
      rw [z, hot] at he'
      cases he'
      exact absurd (Value.type.inj hct) (by decide)
    have hi : i < its.toArray.size := by
      obtain ⟨h, _⟩ := List.getElem?_eq_some_iff.mp hu
      simpa using h
    refine wpAny_pyNext_enum_itemD (Draws.tuple (A := X.A.in1) (I.ok.hd hc) it a ai its.toArray) he ⟨hit, hT0⟩ hi hne (by simp [hne, ea]) fun u' h' tk hu' ho hit' hT hsz hk => ?_
    have eu : u' = u := by
      have q : its.toArray[i]? = some u' := hu'
      rw [show its.toArray[i]? = some u by simpa using hu] at q
      cases q
      rfl
    subst eu
    refine ⟨_, rfl, wpAny_letOwnedTupleGo_enum (s := { s with heap := h', toks := tk + 1 }) ho fun h'' he' sb => ?_⟩
    have hT2 : h''.get? s.heap.objs.size = some { cls := .type "tuple", data := .seq #[.int i tk, u'] } := (sb.2 _ (Nat.ne_of_gt hel)).trans hT
    have new : ObjOk X.prog X.w (upd H s.heap.objs.size (.tup [.int (i : Nat), x])) h'' s.heap.objs.size (.tup [.int (i : Nat), x]) :=
      ⟨by show 2 ≤ sizeLine; decide, [.int i tk, u'], .cons ⟨_, rfl⟩ (.cons ru .nil), ⟨_, hT2, rfl, _, rfl⟩⟩
    have I1 : Inv X pins σ (upd H s.heap.objs.size (.tup [.int (i : Nat), x])) { s with heap := h'', toks := tk + 1 } :=
      I.turnedNew (ch := [e, it]) (fun b ob hb q => (sb.2 b (fun z => hb (by simp [z]))).trans (hk b ob (fun z => hb (by simp [z])) (fun z => hb (by simp [z])) q)) hf (Nat.le_refl _) new
    refine ⟨.ref s.heap.objs.size, _, I1, rfl, ⟨_, x, rfl, I.hok.fresh (Nat.le_refl _), rfl, fun ys hy => by rw [I.tuple_inj hy hq]; exact hx⟩, ⟨⟨u', ?_⟩, hit'.1.at fun o q => (sb.2 it (Ne.symm hne)).trans q, hne⟩, fun b hb => ?_⟩
    · have e1 : ((i + 1 : Nat) : Int) = (i : Int) + 1 := by omega
      rw [e1]; exact he'
    · have hb' : b < s.heap.objs.size := by
        have e' : b = e ∨ b = it := by simpa using hb
        rcases e' with z | z
        · rw [z]; exact hel
        · rw [z]; exact hil
      rw [upd_ne (Nat.ne_of_lt hb')]
      exact (hf b hb).1
  done := by
    intro X hP hw hK hc i pins s σ H E I hf st hg
    subst hP hw hK
    obtain ⟨⟨old, he⟩, hit, hne⟩ := st
    obtain ⟨xs, hq, hx⟩ := hg
    obtain ⟨its, rv, ⟨ot, hot, hct, nt, hdt⟩, hz⟩ := I.tuple hq
    obtain ⟨f0, f1, f2, f3, f4, f5⟩ := hf it (by simp)
    have hT0 : s.heap.IsTuple a its.toArray := ⟨ot, hot, hct, nt, hdt⟩
    have ai : a ≠ it := fun z => by
      obtain ⟨oi, q, qc, _⟩ := hit
      rw [← z, hot] at q
      cases q
      rw [hct] at qc
      exact absurd (Value.type.inj qc) (by decide)
    have hl : its.toArray.size = i := by rw [List.size_toArray, ← rv.length, hx]
    exact wpAny_pyNext_enum_endD (Draws.tuple (A := X.A.in1) (I.ok.hd hc) it a ai its.toArray) he ⟨hl ▸ hit, hT0⟩ fun h' eb => ⟨rfl, I.turned (t' := s.toks) (fun b o hb q => eb b o hb q) f0 f1 f3 f4 f5⟩
  self := fun A i s Q E st h => let ⟨⟨_, he⟩, _⟩ := st; wpAny_pyIter_enum he h
def iEnumT (K : PySem.W.Frag) (ta : TA) : TI := fun σ H R => ta σ H fun vs H1 => ∃ a xs, vs = [.ref a] ∧ SqT K H1 a xs ∧ R (IteT K a) H1
theorem pi_enumT {X : Cx} {e : Expr} {ta : TA} {p pos tpos : Pos} {elts : List Expr} {kk : Nat} (hg : Gl X "enumerate") (hm : X.mg "enumerate" = none) (ha : PA X [e] ta) (hs : starEach [e] X.env = [(false, eval e X.env)] := by rfl) :
    PI X (.Tuple elts kk tpos) (.Call (.Name "enumerate" p) [e] [] pos) (fun σ H R => ta σ H fun vs H1 => ∃ a xs, vs = [.ref a] ∧ ((SqL X.K H1 a xs ∧ R (Ite X.K a) H1) ∨ (SqT X.K H1 a xs ∧ R (IteT X.K a) H1))) := by
  refine ⟨fun pins s σ H R I h => ?_⟩
  refine Call_ (ld_blt I hg hm boot_enumerate (PyProof.Rows.callWith_type1 (thn (ha.run pos pins s σ H _ I h) fun us s1 ⟨vs, H1, I1, r1, q1⟩ => ?_) hs rfl))
  obtain ⟨a, xs, ex, q⟩ := q1
  subst ex
  cases r1 with
  | cons r rr =>
    cases rr
    cases r
    have fresh : ∀ b ∈ [s1.heap.objs.size + 1, s1.heap.objs.size], s1.heap.objs.size ≤ b := fun b hb => by
      have e' : b = s1.heap.objs.size + 1 ∨ b = s1.heap.objs.size := by simpa using hb
      rcases e' with z | z
      · rw [z]; exact Nat.le_add_right _ _
      · rw [z]; exact Nat.le_refl _
    rcases q with ⟨hq, q⟩ | ⟨hq, q⟩
    · obtain ⟨its, rv, p', hz⟩ := I1.list hq
      refine call_enumerate_list p'.isList fun h' he hit hsz hk => wpAny_pyIter_enum he ?_
      have I2 : Inv X pins σ H1 { s1 with heap := h' } := I1.kept (t' := s1.toks) hk
      exact ⟨s1.heap.objs.size + 1, [s1.heap.objs.size + 1, s1.heap.objs.size], _, _, H1, rfl, I2, turn_enum a (s1.heap.objs.size + 1) s1.heap.objs.size, ⟨⟨.none, he⟩, hit, Nat.succ_ne_self _⟩, fun b hb => I1.fpOk (fresh b hb) (I1.hok.fresh (fresh b hb)), q⟩
    · obtain ⟨its, rv, ⟨ot, hot, hct, nt, hdt⟩, hz⟩ := I1.tuple hq
      refine call_enum1 (begins_tuple a its.toArray) ⟨ot, hot, hct, nt, hdt⟩ fun h' he hit hk => wpAny_pyIter_enum he ?_
      have I2 : Inv X pins σ H1 { s1 with heap := h' } := I1.kept (t' := s1.toks) hk
      exact ⟨s1.heap.objs.size + 1, [s1.heap.objs.size + 1, s1.heap.objs.size], _, _, H1, rfl, I2, turn_enumT a (s1.heap.objs.size + 1) s1.heap.objs.size, ⟨⟨.none, he⟩, ⟨_, hit, rfl, rfl⟩, Nat.succ_ne_self _⟩, fun b hb => I1.fpOk (fresh b hb) (I1.hok.fresh (fresh b hb)), q⟩
theorem it_enumT {K : PySem.W.Frag} {H : Hp} {a : Addr} {xs : List V} {ds : List PyData} (h : SqT K H a xs) (r : Reps K H xs ds) : ItOk K (IteT K a) H (ds.zipIdx.map fun (d, j) => .tuple [.int j, d]) := by
  refine ⟨fun i d H1 e hd => ?_, fun H1 e => ⟨xs, e.sqt h, by simp [r.length]⟩⟩
  rw [List.getElem?_map, List.getElem?_zipIdx] at hd
  obtain ⟨⟨d', j⟩, hc, rfl⟩ := Option.map_eq_some_iff.mp hd
  obtain ⟨d2, hd2, e2⟩ := Option.map_eq_some_iff.mp hc
  cases e2
  obtain ⟨v, hv, rv⟩ := r.get hd2
  refine ⟨⟨xs, v, e.sqt h, hv⟩, fun x H' y => ?_⟩
  obtain ⟨T, x', rfl, hT, rfl, q⟩ := y
  have q := q xs (e.sqt h)
  rw [hv] at q; cases q
  have ex := Ex.new (o := .tup [.int (i : Nat), v]) hT
  refine ⟨ex, .tup ⟨SqT.of upd_same, fun z => nomatch z⟩ ?_⟩
  rw [Nat.zero_add]
  exact .cons (.int _) (.cons ((rv.mono e).mono ex.ext) .nil)
section
variable {X : Cx} {md : Rm} {en : En} {Wx : L2.WX} {e : Expr} {m : ME} {p pos : Pos}
theorem id_enum {tpos : Pos} {elts : List Expr} {kk : Nat} (hg : Gl X "enumerate") (hm : X.mg "enumerate" = none) (h : PD md en Wx X e m) (hs : starEach [e] X.env = [(false, eval e X.env)] := by rfl) : ID md en Wx X (.Tuple elts kk tpos) (.Call (.Name "enumerate" p) [e] [] pos) (.enum m) := by
  refine PI.imp (pi_enumT hg hm (pa_cons (PE.toV h) pa_nil (by rw [hs]; rfl)) hs) fun σ H R ⟨G, ρ, Rs, w⟩ => ⟨G, ρ, Rs, w.bind.mono fun d ρ1 w v H1 fr1 sb1 R1 rep1 => ?_⟩
  cases d with
  | list l =>
    cases rep1 with
    | lst f r => exact ⟨_, _, rfl, .inl ⟨f.sq, (show ∀ J H', Fr σ ρ H H' → Sub ρ ρ1 → RS G X.K md σ ρ1 H' → ItOk X.K J H' _ → R J H' from w) _ H1 fr1 sb1 R1 (it_enum f r)⟩⟩
  | tuple l =>
    cases rep1 with
    | tup f r => exact ⟨_, _, rfl, .inr ⟨f.1, (show ∀ J H', Fr σ ρ H H' → Sub ρ ρ1 → RS G X.K md σ ρ1 H' → ItOk X.K J H' _ → R J H' from w) _ H1 fr1 sb1 R1 (it_enumT f.1 r)⟩⟩
  | _ => exact False.elim w
end
end Dn
/-! Den15: reading the small language by rewriting -/
namespace Dn
open PySem
/-- a continuation that is not looked into: the mark hangs on it -/
structure Mark {α : Sort _} (f : α) where
def Res.bnd {α β : Type} (r : Res α) (f : α → Env → Res β) (t : Mark f) : Res β := r.bind f
def onm {α β : Type} (o : Option α) (f : α → Res β) (t : Mark f) : Res β := on o f
@[simp ↓] theorem bind_bnd {α β : Type} {r : Res α} {f : α → Env → Res β} : r.bind f = r.bnd f ⟨⟩ := rfl
@[simp ↓] theorem on_onm {α β : Type} {o : Option α} {f : α → Res β} : on o f = onm o f ⟨⟩ := rfl
@[simp] theorem bnd_ok {α β : Type} {a : α} {ρ : Env} {f : α → Env → Res β} {t : Mark f} : (Res.ok a ρ).bnd f t = f a ρ := rfl
@[simp] theorem bnd_exc {α β : Type} {x : Exc} {ρ : Env} {f : α → Env → Res β} {t : Mark f} : (Res.exc x ρ).bnd f t = .exc x ρ := rfl
@[simp] theorem bnd_stuck {α β : Type} {f : α → Env → Res β} {t : Mark f} : (Res.stuck : Res α).bnd f t = .stuck := rfl
@[simp] theorem onm_some {α β : Type} {a : α} {f : α → Res β} {t : Mark f} : onm (some a) f t = f a := rfl
theorem bind_ext {α β : Type} {r : Res α} {f g : α → Env → Res β} (h : ∀ x ρ, f x ρ = g x ρ) : r.bind f = r.bind g := by
  have e : f = g := funext fun x => funext fun ρ => h x ρ
  rw [e]
theorem on_ext {α β : Type} {o : Option α} {f g : α → Res β} (h : ∀ x, f x = g x) : on o f = on o g := by
  have e : f = g := funext h
  rw [e]
/-- a slot's raw value -/
def slotE (i : Nat) (ρ : Env) : Option Slot → Res EV
  | some (.val d) => .ok (.val d) ρ
  | some (.own _) => .ok (.al i) ρ
  | _ => .stuck
@[simp] theorem slotE_val {i : Nat} {ρ : Env} {d : PyData} : slotE i ρ (some (.val d)) = .ok (.val d) ρ := rfl
@[simp] theorem slotE_own {i : Nat} {ρ : Env} {d : PyData} : slotE i ρ (some (.own d)) = .ok (.al i) ρ := rfl
def negE (ρ : Env) : EV → Res EV
  | .val (.int i) => .ok (.val (.int (-i))) ρ
  | _ => .stuck
@[simp] theorem negE_int {ρ : Env} {i : Int} : negE ρ (.val (.int i)) = .ok (.val (.int (-i))) ρ := rfl
def setE (i : Nat) (ρ : Env) : Option Slot → Res PyData
  | some (.val d) => .ok d ρ
  | some (.own d) => .ok d (ρ.set i (.val d))
  | _ => .stuck
@[simp] theorem setE_val {i : Nat} {ρ : Env} {d : PyData} : setE i ρ (some (.val d)) = .ok d ρ := rfl
@[simp] theorem setE_own {i : Nat} {ρ : Env} {d : PyData} : setE i ρ (some (.own d)) = .ok d (ρ.set i (.val d)) := rfl
@[simp] theorem settle_val {ρ : Env} {d : PyData} : settle (.val d) ρ = .ok d ρ := rfl
@[simp] theorem settle_fr {ρ : Env} {d : PyData} : settle (.fr d) ρ = .ok d ρ := rfl
@[simp] theorem settle_al {ρ : Env} {i : Nat} : settle (.al i) ρ = setE i ρ ρ[i]? := by
  show (match ρ[i]? with | some (.val d) => Res.ok d ρ | some (.own d) => .ok d (ρ.set i (.val d)) | _ => .stuck) = _
  cases ρ[i]? with
  | none => rfl
  | some s => cases s <;> rfl
@[simp] theorem toR_val {d : PyData} : toR (.val d) = .dat d := rfl
@[simp] theorem toR_fr {d : PyData} : toR (.fr d) = .dat d := rfl
@[simp] theorem toR_al {i : Nat} : toR (.al i) = .al i := rfl
@[simp] theorem deref_dat {ρ : Env} {d : PyData} : deref ρ (.dat d) = some d := rfl
@[simp] theorem deref_al {ρ : Env} {i : Nat} : deref ρ (.al i) = (ρ[i]?).bind slotD := rfl
@[simp] theorem slotD_val {d : PyData} : slotD (.val d) = some d := rfl
@[simp] theorem slotD_own {d : PyData} : slotD (.own d) = some d := rfl
@[simp] theorem still_val {ρ : Env} {d : PyData} : still (.val d) ρ = .ok (.val d) ρ := rfl
@[simp] theorem still_fr {ρ : Env} {d : PyData} : still (.fr d) ρ = .ok (.fr d) ρ := rfl
@[simp] theorem still_al {ρ : Env} {i : Nat} : still (.al i) ρ = (setE i ρ ρ[i]?).bind fun d ρ => .ok (.val d) ρ := by
  show (settle (.al i) ρ).bind _ = _
  rw [settle_al]
@[simp] theorem putS_val {i : Nat} {ρ : Env} {d : PyData} : putS i (.val d) ρ = .ok () (ρ.set i (.val d)) := rfl
@[simp] theorem putS_fr {i : Nat} {ρ : Env} {d : PyData} : putS i (.fr d) ρ = .ok () (ρ.set i (.own d)) := rfl
@[simp] theorem ofO_some {α : Type} {a : α} {ρ : Env} : ofO (some a) ρ = .ok a ρ := rfl
def afterC (as : List AV) (ρ : Env) : CRes → Res EV
  | .ok (.al _) _ => .stuck
  | .ok e outs => .ok e (putBack as outs ρ)
  | .exc x outs => .exc x (putBack as outs ρ)
  | .stuck => .stuck
@[simp] theorem afterC_val {as : List AV} {ρ : Env} {d : PyData} {outs : List Slot} : afterC as ρ (.ok (.val d) outs) = .ok (.val d) (putBack as outs ρ) := rfl
@[simp] theorem afterC_fr {as : List AV} {ρ : Env} {d : PyData} {outs : List Slot} : afterC as ρ (.ok (.fr d) outs) = .ok (.fr d) (putBack as outs ρ) := rfl
def popE (i : Nat) (ρ : Env) : Option Slot → Res EV
  | some (.own (.list l)) => on l.getLast? fun d => .ok (.val d) (ρ.set i (.own (.list l.dropLast)))
  | _ => .stuck
@[simp] theorem popE_own {i : Nat} {ρ : Env} {l : List PyData} : popE i ρ (some (.own (.list l))) = on l.getLast? fun d => .ok (.val d) (ρ.set i (.own (.list l.dropLast))) := rfl
section
variable {md : List Bool} {en : En} {ρ : Env} {a b c e : ME} {es : List ME}
@[simp] theorem ev_c {d : PyData} : evalE md en (.c d) ρ = .ok (.val d) ρ := rfl
@[simp] theorem ev_v {i : Nat} : evalE md en (.v i) ρ = slotE i ρ ρ[i]? := by
  show (match ρ[i]? with | some (.val d) => Res.ok (EV.val d) ρ | some (.own _) => .ok (.al i) ρ | _ => .stuck) = _
  cases ρ[i]? with
  | none => rfl
  | some s => cases s <;> rfl
@[simp] theorem ev_tup : evalE md en (.tup es) ρ = (evalVs md en es ρ).bind fun ds ρ => if ds.length ≤ szl then .ok (.val (.tuple ds)) ρ else .stuck := rfl
@[simp] theorem ev_lst : evalE md en (.lst es) ρ = (evalVs md en es ρ).bind fun ds ρ => if ds.length ≤ szl then .ok (.fr (.list ds)) ρ else .stuck := rfl
@[simp] theorem ev_dnew : evalE md en .dnew ρ = .ok (.fr (.dict [])) ρ := rfl
@[simp] theorem ev_get1 : evalE md en (.get1 a b) ρ = (evalE md en a ρ).bind fun x ρ => if ((deref ρ (toR x)).bind dictOf).isSome = true then ((evalE md en b ρ).bind settle).bind fun y ρ => on ((deref ρ (toR x)).bind dictOf) fun kvs => on (keyOf y) fun k => .ok (.val ((findK k kvs).getD .none)) ρ else .stuck := rfl
@[simp] theorem ev_get2 : evalE md en (.get2 a b c) ρ = (evalE md en a ρ).bind fun x ρ => if ((deref ρ (toR x)).bind dictOf).isSome = true then ((evalE md en b ρ).bind settle).bind fun y ρ => ((evalE md en c ρ).bind settle).bind fun z ρ => on ((deref ρ (toR x)).bind dictOf) fun kvs => on (keyOf y) fun k => .ok (.val ((findK k kvs).getD z)) ρ else .stuck := rfl
@[simp] theorem isIns_nil : isIns [] = false := rfl
@[simp] theorem isIns_str {k : Str} {d : PyData} {r : List (PyData × PyData)} : isIns ((.str k, d) :: r) = false := rfl
@[simp] theorem isIns_int {k : Int} {d : PyData} {r : List (PyData × PyData)} : isIns ((.int k, d) :: r) = false := rfl
@[simp] theorem isIns_non {d : PyData} {r : List (PyData × PyData)} : isIns ((.none, d) :: r) = true := rfl
@[simp] theorem dictOf_dict {kvs : List (PyData × PyData)} (n : isIns kvs = false) : dictOf (.dict kvs) = some kvs := if_neg (by rw [n]; exact Bool.false_ne_true)
@[simp] theorem keyOf_str {x : Str} : keyOf (.str x) = some (.inr x) := rfl
@[simp] theorem keyOf_int {i : Int} : keyOf (.int i) = some (.inl i) := rfl
@[simp] theorem ev_bin {o : BOp} : evalE md en (.bin o a b) ρ = (evalE md en a ρ).bind fun x ρ => (evalE md en b ρ).bind fun y ρ => on (deref ρ (toR x)) fun x => on (deref ρ (toR y)) fun y => ofO (binD o x y) ρ := rfl
@[simp] theorem ev_neg : evalE md en (.neg a) ρ = (evalE md en a ρ).bind fun x ρ => negE ρ x := by
  refine bind_ext fun x ρ => ?_
  cases x with
  | val d => cases d <;> rfl
  | _ => rfl
@[simp] theorem ev_cmp {o : COp} : evalE md en (.cmp o a b) ρ = (evalE md en a ρ).bind fun x ρ => (evalE md en b ρ).bind fun y ρ => on (deref ρ (toR x)) fun x => on (deref ρ (toR y)) fun y => on (cmpD o x y) fun b => .ok (.val (.bool b)) ρ := rfl
@[simp] theorem ev_chain {o o' : COp} : evalE md en (.chain o o' a b c) ρ = (evalE md en a ρ).bind fun x ρ => (evalE md en b ρ).bind fun y ρ => on (deref ρ (toR x)) fun x' => on (deref ρ (toR y)) fun y' => on (cmpD o x' y') fun k => if k = true then
      (evalE md en c ρ).bind fun z ρ => on (deref ρ (toR y)) fun y => on (deref ρ (toR z)) fun z => on (cmpD o' y z) fun b => .ok (.val (.bool b)) ρ
      else .ok (.val (.bool false)) ρ := rfl
@[simp] theorem ev_and : evalE md en (.and a b) ρ = (evalE md en a ρ).bind fun x ρ => on ((deref ρ (toR x)).bind truthy) fun k => if k = true then evalE md en b ρ else .ok x ρ := rfl
@[simp] theorem ev_or : evalE md en (.or a b) ρ = (evalE md en a ρ).bind fun x ρ => on ((deref ρ (toR x)).bind truthy) fun k => if k = true then .ok x ρ else evalE md en b ρ := rfl
@[simp] theorem ev_not : evalE md en (.not a) ρ = (evalE md en a ρ).bind fun x ρ => on ((deref ρ (toR x)).bind truthy) fun k => .ok (.val (.bool (!k))) ρ := rfl
@[simp] theorem ev_ite : evalE md en (.ite c a b) ρ = (evalE md en c ρ).bind fun x ρ => on ((deref ρ (toR x)).bind truthy) fun k => if k = true then evalE md en a ρ else evalE md en b ρ := rfl
@[simp] theorem ev_idx : evalE md en (.idx a b) ρ = (evalE md en a ρ).bind fun x ρ => (evalE md en b ρ).bind fun y ρ => on (deref ρ (toR x)) fun x => on (deref ρ (toR y)) fun y => on (idxD x y) fun d => .ok (.val d) ρ := rfl
@[simp] theorem ev_sl {lo hi : MP} : evalE md en (.sl a lo hi) ρ = (evalE md en a ρ).bind fun x ρ => (evalP md en lo ρ).bind fun l ρ => (evalP md en hi ρ).bind fun h ρ => on (deref ρ (toR x)) fun x => ofO (slD x l h) ρ := rfl
@[simp] theorem ev_rev : evalE md en (.rev a) ρ = (evalE md en a ρ).bind fun x ρ => on (deref ρ (toR x)) fun x => ofO (revD x) ρ := rfl
@[simp] theorem ev_isi {ts : List Ty} : evalE md en (.isi a ts) ρ = (evalE md en a ρ).bind fun x ρ => on (deref ρ (toR x)) fun x => .ok (.val (.bool (ts.any (isTy x)))) ρ := rfl
@[simp] theorem ev_call {f : Nat} : evalE md en (.call f es) ρ = (evalAs md en (en.modes f) es ρ).bind fun as ρ => on (argSlots ρ as) fun ss => afterC as ρ (en.call f ss) := by
  refine bind_ext fun as ρ => on_ext fun ss => ?_
  cases en.call f ss with
  | ok e outs => cases e <;> rfl
  | _ => rfl
@[simp] theorem ev_blt {o : Blt} : evalE md en (.blt o es) ρ = (evalRs md en es ρ).bind fun xs ρ => on (xs.mapM (deref ρ)) fun ds => ofO (bltD o ds) ρ := rfl
/-- a comprehension behind its walk -/
def lcE (md : List Bool) (en : En) (ws : List Nat) (tg : Tg) (cs : List ME) (e : ME) (ds : List PyData) (ρ : Env) : Res EV := if ws.all (free md) = true then
      (compL (fun d ρ => on (assignT md tg d ρ) fun ρ => evalCs md en cs ρ) (fun ρ => (evalE md en e ρ).bind settle) (wipeS ws) ds [] (wipeS ws ρ)).nox.bind fun l ρ' => .ok (.fr (.list l)) (restore ws ρ ρ')
      else .stuck
def forE (W : Nat) (md : List Bool) (en : En) (tg : Tg) (ss : List MS) (ds : List PyData) (ρ : Env) : Res Fl := forL (assignT md tg) (execSs W md en ss) ds ρ
def whileE (W : Nat) (md : List Bool) (en : En) (c : ME) (ss : List MS) (n : Nat) (ρ : Env) : Res Fl := whileL (evalT md en c) (execSs W md en ss) n ρ
@[simp] theorem ev_lc {ws : List Nat} {tg : Tg} {it : MI} {cs : List ME} : evalE md en (.lc ws tg it cs e) ρ = (evalI md en it ρ).bind fun ds ρ => lcE md en ws tg cs e ds ρ := rfl
@[simp] theorem ev_pop {i : Nat} : evalE md en (.pop i) ρ = popE i ρ ρ[i]? := by
  show (match ρ[i]? with | some (.own (.list l)) => on l.getLast? fun d => Res.ok (EV.val d) (ρ.set i (.own (.list l.dropLast))) | _ => .stuck) = _
  cases ρ[i]? with
  | none => rfl
  | some s =>
    cases s with
    | own d => cases d <;> rfl
    | _ => rfl
@[simp] theorem ep_non : evalP md en .non ρ = .ok none ρ := rfl
def intO (ρ : Env) : PyData → Res (Option Int)
  | .int i => .ok (some i) ρ
  | _ => .stuck
@[simp] theorem intO_int {i : Int} : intO ρ (.int i) = .ok (some i) ρ := rfl
@[simp] theorem ep_ex : evalP md en (.ex e) ρ = ((evalE md en e ρ).bind settle).bind fun d ρ => intO ρ d := by
  refine bind_ext fun d ρ => ?_
  cases d <;> rfl
@[simp] theorem evs_nil : evalVs md en [] ρ = .ok [] ρ := rfl
@[simp] theorem evs_cons : evalVs md en (e :: es) ρ = ((evalE md en e ρ).bind settle).bind fun d ρ => (evalVs md en es ρ).bind fun ds ρ => .ok (d :: ds) ρ := rfl
@[simp] theorem ers_nil : evalRs md en [] ρ = .ok [] ρ := rfl
@[simp] theorem ers_cons : evalRs md en (e :: es) ρ = (evalE md en e ρ).bind fun x ρ => (evalRs md en es ρ).bind fun xs ρ => .ok (toR x :: xs) ρ := rfl
@[simp] theorem eas_nil {ms : List Bool} : evalAs md en ms [] ρ = .ok [] ρ := rfl
@[simp] theorem eas_cons {ms : List Bool} : evalAs md en ms (e :: es) ρ = ((evalE md en e ρ).bind (asArg (ms.head?.getD false))).bind fun a ρ => (evalAs md en ms.tail es ρ).bind fun r ρ => .ok (a :: r) ρ := rfl
@[simp] theorem ecs_nil : evalCs md en [] ρ = .ok true ρ := rfl
@[simp] theorem ecs_cons : evalCs md en (e :: es) ρ = (evalE md en e ρ).bind fun x ρ => on ((deref ρ (toR x)).bind truthy) fun k => if k = true then evalCs md en es ρ else .ok false ρ := rfl
@[simp] theorem ei_ex : evalI md en (.ex e) ρ = ((evalE md en e ρ).bind settle).bind fun d ρ => ofO (itemsD d) ρ := rfl
@[simp] theorem ei_vals : evalI md en (.vals e) ρ = ((evalE md en e ρ).bind settle).bind fun d ρ => on (dictOf d) fun kvs => .ok (kvs.map (·.2)) ρ := rfl
@[simp] theorem ei_items : evalI md en (.items e) ρ = ((evalE md en e ρ).bind settle).bind fun d ρ => on (dictOf d) fun kvs => .ok (kvs.map fun p => .tuple [p.1, p.2]) ρ := rfl
def rangeO (ρ : Env) : PyData → PyData → Res (List PyData)
  | .int i, .int j => ofO (rangeD i j) ρ
  | _, _ => .stuck
@[simp] theorem rangeO_int {i j : Int} : rangeO ρ (.int i) (.int j) = ofO (rangeD i j) ρ := rfl
@[simp] theorem ei_range1 : evalI md en (.range1 e) ρ = ((evalE md en e ρ).bind settle).bind fun d ρ => rangeO ρ (.int 0) d := by
  refine bind_ext fun d ρ => ?_
  cases d <;> rfl
@[simp] theorem ei_range2 : evalI md en (.range2 a b) ρ = ((evalE md en a ρ).bind settle).bind fun d ρ => ((evalE md en b ρ).bind settle).bind fun d' ρ => rangeO ρ d d' := by
  refine bind_ext fun d ρ => bind_ext fun d' ρ => ?_
  cases d <;> cases d' <;> rfl
@[simp] theorem asArg_val {m : Bool} {d : PyData} : asArg m (.val d) ρ = .ok (.dat d) ρ := by cases m <;> rfl
@[simp] theorem asArg_fr {m : Bool} {d : PyData} : asArg m (.fr d) ρ = .ok (.dat d) ρ := by cases m <;> rfl
@[simp] theorem asArg_sl {i : Nat} : asArg true (.al i) ρ = .ok (.sl i) ρ := rfl
@[simp] theorem asArg_al {i : Nat} : asArg false (.al i) ρ = (setE i ρ ρ[i]?).bind fun d ρ => .ok (.dat d) ρ := by
  show (settle (.al i) ρ).bind _ = _
  rw [settle_al]
@[simp] theorem argSlots_nil : argSlots ρ [] = some [] := rfl
@[simp] theorem argSlots_dat {d : PyData} {r : List AV} : argSlots ρ (.dat d :: r) = (argSlots ρ r).map (.val d :: ·) := rfl
def argOne (r : List AV) (i : Nat) (o : Option (List Slot)) : Option Slot → Option (List Slot)
  | some (.own d) => if (r.any fun a => match a with | .sl j => i == j | _ => false) = true then none else o.map (.own d :: ·)
  | some (.val d) => o.map (.val d :: ·)
  | _ => none
@[simp] theorem argOne_val {r : List AV} {i : Nat} {o : Option (List Slot)} {d : PyData} : argOne r i o (some (.val d)) = o.map (.val d :: ·) := rfl
@[simp] theorem argOne_own {r : List AV} {i : Nat} {o : Option (List Slot)} {d : PyData} : argOne r i o (some (.own d)) = if (r.any fun a => match a with | .sl j => i == j | _ => false) = true then none else o.map (.own d :: ·) := rfl
@[simp] theorem argSlots_sl {i : Nat} {r : List AV} : argSlots ρ (.sl i :: r) = argOne r i (argSlots ρ r) ρ[i]? := by
  show (match ρ[i]? with
    | some (Slot.own d) => if (r.any fun a => match a with | .sl j => i == j | _ => false) = true then none else (argSlots ρ r).map (Slot.own d :: ·)
    | some (.val d) => (argSlots ρ r).map (.val d :: ·)
    | _ => none) = _
  cases ρ[i]? with
  | none => rfl
  | some s => cases s <;> rfl
@[simp] theorem putBack_nil {outs : List Slot} : putBack [] outs ρ = ρ := by cases outs <;> rfl
@[simp] theorem putBack_dat {d : PyData} {r : List AV} {s : Slot} {outs : List Slot} : putBack (.dat d :: r) (s :: outs) ρ = putBack r outs ρ := rfl
def putOne (i : Nat) (s : Slot) (ρ : Env) : Option Slot → Env
  | some (.own _) => ρ.set i s
  | _ => ρ
@[simp] theorem putOne_own {i : Nat} {s : Slot} {d : PyData} : putOne i s ρ (some (.own d)) = ρ.set i s := rfl
@[simp] theorem putOne_val {i : Nat} {s : Slot} {d : PyData} : putOne i s ρ (some (.val d)) = ρ := rfl
@[simp] theorem putBack_sl {i : Nat} {r : List AV} {s : Slot} {outs : List Slot} : putBack (.sl i :: r) (s :: outs) ρ = putBack r outs (putOne i s ρ ρ[i]?) := by
  show putBack r outs (match ρ[i]? with | some (.own _) => ρ.set i s | _ => ρ) = _
  cases ρ[i]? with
  | none => rfl
  | some s => cases s <;> rfl
end
@[simp] theorem isOwn_def {ρ : Env} {i : Nat} {l : List PyData} (h : ρ[i]? = some (.own (.list l))) : isOwn ρ i = true := by unfold isOwn; rw [h]
@[simp] theorem isOwnD_def {ρ : Env} {i : Nat} {l : List (PyData × PyData)} (h : ρ[i]? = some (.own (.dict l))) : isOwnD ρ i = true := by unfold isOwnD; rw [h]
@[simp] theorem wipeS_nil {ρ : Env} : wipeS [] ρ = ρ := rfl
@[simp] theorem wipeS_cons {w : Nat} {r : List Nat} {ρ : Env} : wipeS (w :: r) ρ = (wipeS r ρ).set w .un := rfl
@[simp] theorem restore_nil {ρ ρ' : Env} : restore [] ρ ρ' = ρ' := rfl
@[simp] theorem restore_cons {w : Nat} {r : List Nat} {ρ ρ' : Env} : restore (w :: r) ρ ρ' = (restore r ρ ρ').set w ((ρ[w]?).getD .un) := rfl
@[simp] theorem setAll_nil {ρ : Env} : setAll [] [] ρ = some ρ := rfl
@[simp] theorem setAll_cons {i : Nat} {is : List Nat} {d : PyData} {ds : List PyData} {ρ : Env} : setAll (i :: is) (d :: ds) ρ = setAll is ds (ρ.set i (.val d)) := rfl
@[simp] theorem assignT_n {md : List Bool} {i : Nat} {d : PyData} {ρ : Env} : assignT md (.n i) d ρ = if free md i = true then some (ρ.set i (.val d)) else none := rfl
@[simp] theorem assignT_tup {md : List Bool} {is : List Nat} {ds : List PyData} {ρ : Env} : assignT md (.t is) (.tuple ds) ρ = if is.all (free md) = true then setAll is ds ρ else none := rfl
@[simp] theorem assignT_lst {md : List Bool} {is : List Nat} {ds : List PyData} {ρ : Env} : assignT md (.t is) (.list ds) ρ = if is.all (free md) = true then setAll is ds ρ else none := rfl
section
variable {W : Nat} {md : List Bool} {en : En} {ρ : Env} {a b c e : ME} {es : List ME} {s : MS} {ss tt : List MS}
@[simp] theorem et_def : evalT md en c ρ = (evalE md en c ρ).bind fun x ρ => on ((deref ρ (toR x)).bind truthy) fun b => .ok b ρ := rfl
def seqF (k : Env → Res Fl) (f : Fl) (ρ : Env) : Res Fl := match f with
  | .nx => k ρ
  | f => .ok f ρ
@[simp] theorem seqF_nx {k : Env → Res Fl} : seqF k .nx ρ = k ρ := rfl
@[simp] theorem seqF_ret {k : Env → Res Fl} {x : EV} : seqF k (.ret x) ρ = .ok (.ret x) ρ := rfl
@[simp] theorem seqF_brk {k : Env → Res Fl} : seqF k .brk ρ = .ok .brk ρ := rfl
@[simp] theorem seqF_cnt {k : Env → Res Fl} : seqF k .cnt ρ = .ok .cnt ρ := rfl
@[simp] theorem xs_nil : execSs W md en [] ρ = .ok .nx ρ := rfl
@[simp] theorem xs_cons : execSs W md en (s :: ss) ρ = (execS W md en s ρ).bind fun f ρ => seqF (execSs W md en ss) f ρ := by
  refine bind_ext fun f ρ => ?_
  cases f <;> rfl
@[simp] theorem x_expr : execS W md en (.expr e) ρ = (evalE md en e ρ).bind fun _ ρ => .ok .nx ρ := rfl
@[simp] theorem x_set {i : Nat} : execS W md en (.set i e) ρ = if free md i = true then ((evalE md en e ρ).bind still).bind fun x ρ => (putS i x ρ).bind fun _ ρ => .ok .nx ρ else .stuck := rfl
@[simp] theorem x_unpack {is : List Nat} : execS W md en (.unpack is e) ρ = ((evalE md en e ρ).bind settle).bind fun d ρ => on (assignT md (.t is) d ρ) fun ρ => .ok .nx ρ := rfl
@[simp] theorem x_par {i j : Nat} : execS W md en (.par i j a b) ρ = if free md i = true ∧ free md j = true then ((evalE md en a ρ).bind still).bind fun x ρ => ((evalE md en b ρ).bind still).bind fun y ρ =>
      (putS i x ρ).bind fun _ ρ => (putS j y ρ).bind fun _ ρ => .ok .nx ρ
    else .stuck := rfl
def putE (i : Nat) (d : PyData) (ρ : Env) (n : PyData) (o : Option Slot) : Res Fl := match n, o with
  | .int n, some (.own (.list l)) => on (L2.ixN l.length n) fun j => .ok .nx (ρ.set i (.own (.list (l.set j d))))
  | _, _ => .stuck
@[simp] theorem putE_int {i : Nat} {d : PyData} {n : Int} {l : List PyData} : putE i d ρ (.int n) (some (.own (.list l))) = on (L2.ixN l.length n) fun j => .ok .nx (ρ.set i (.own (.list (l.set j d)))) := rfl
@[simp] theorem x_put {i : Nat} : execS W md en (.put i a e) ρ = ((evalE md en e ρ).bind settle).bind fun d ρ => if isOwn ρ i = true then ((evalE md en a ρ).bind settle).bind fun n ρ => putE i d ρ n ρ[i]? else .stuck := by
  refine bind_ext fun d ρ => ?_
  show (if isOwn ρ i = true then ((evalE md en a ρ).bind settle).bind _ else _) = _
  refine ite_congr rfl (fun _ => bind_ext fun n ρ => ?_) fun _ => rfl
  cases n with
  | int n =>
    cases ρ[i]? with
    | none => rfl
    | some s =>
      cases s with
      | own d => cases d <;> rfl
      | _ => rfl
  | _ => rfl
def putDE (i : Nat) (d : PyData) (ρ : Env) (n : Option L2.Key) (o : Option Slot) : Res Fl := match n, o with
  | some n, some (.own (.dict l)) => if l.length < szl then .ok .nx (ρ.set i (.own (.dict (putKD n d l)))) else .stuck
  | _, _ => .stuck
@[simp] theorem putDE_some {i : Nat} {d : PyData} {n : L2.Key} {l : List (PyData × PyData)} : putDE i d ρ (some n) (some (.own (.dict l))) = if l.length < szl then .ok .nx (ρ.set i (.own (.dict (putKD n d l)))) else .stuck := rfl
@[simp] theorem x_putD {i : Nat} : execS W md en (.putD i a e) ρ = ((evalE md en e ρ).bind settle).bind fun d ρ => if isOwnD ρ i = true then ((evalE md en a ρ).bind settle).bind fun n ρ => putDE i d ρ (keyOf n) ρ[i]? else .stuck := by
  refine bind_ext fun d ρ => ?_
  show (if isOwnD ρ i = true then ((evalE md en a ρ).bind settle).bind _ else _) = _
  refine ite_congr rfl (fun _ => bind_ext fun n ρ => ?_) fun _ => rfl
  cases keyOf n with
  | none => rfl
  | some k =>
    cases ρ[i]? with
    | none => rfl
    | some s =>
      cases s with
      | own d => cases d <;> rfl
      | _ => rfl
def appE (i : Nat) (d : PyData) (ρ : Env) : Option Slot → Res Fl
  | some (.own (.list l)) => if l.length < szl then .ok .nx (ρ.set i (.own (.list (l ++ [d])))) else .stuck
  | _ => .stuck
@[simp] theorem appE_own {i : Nat} {d : PyData} {l : List PyData} : appE i d ρ (some (.own (.list l))) = if l.length < szl then .ok .nx (ρ.set i (.own (.list (l ++ [d])))) else .stuck := rfl
@[simp] theorem x_app {i : Nat} : execS W md en (.app i e) ρ = if isOwn ρ i = true then ((evalE md en e ρ).bind settle).bind fun d ρ => appE i d ρ ρ[i]? else .stuck := by
  show (if isOwn ρ i = true then ((evalE md en e ρ).bind settle).bind _ else _) = _
  refine ite_congr rfl (fun _ => bind_ext fun d ρ => ?_) fun _ => rfl
  cases ρ[i]? with
  | none => rfl
  | some s =>
    cases s with
    | own d => cases d <;> rfl
    | _ => rfl
def augE (i : Nat) (o : BOp) (r : Env → Res PyData) (ρ : Env) : Option Slot → Res Fl
  | some (.val x) => (r ρ).bind fun y ρ => on (augD o x y) fun z => .ok .nx (ρ.set i (.val z))
  | _ => .stuck
@[simp] theorem augE_val {i : Nat} {o : BOp} {r : Env → Res PyData} {x : PyData} : augE i o r ρ (some (.val x)) = (r ρ).bind fun y ρ => on (augD o x y) fun z => .ok .nx (ρ.set i (.val z)) := rfl
@[simp] theorem x_aug {i : Nat} {o : BOp} : execS W md en (.aug i o e) ρ = if free md i = true then augE i o (fun ρ => (evalE md en e ρ).bind settle) ρ ρ[i]? else .stuck := by
  refine ite_congr rfl (fun _ => ?_) fun _ => rfl
  cases ρ[i]? with
  | none => rfl
  | some s => cases s <;> rfl
@[simp] theorem x_ret : execS W md en (.ret e) ρ = (evalE md en e ρ).bind fun x ρ => .ok (.ret x) ρ := rfl
@[simp] theorem x_ite : execS W md en (.ite c ss tt) ρ = (evalT md en c ρ).bind fun k ρ => if k = true then execSs W md en ss ρ else execSs W md en tt ρ := rfl
@[simp] theorem x_while : execS W md en (.while c ss) ρ = whileE W md en c ss W ρ := rfl
@[simp] theorem x_for {tg : Tg} {it : MI} : execS W md en (.for tg it ss) ρ = (evalI md en it ρ).bind fun ds ρ => forE W md en tg ss ds ρ := rfl
@[simp] theorem x_pass : execS W md en .pass ρ = .ok .nx ρ := rfl
@[simp] theorem x_brk : execS W md en .brk ρ = .ok .brk ρ := rfl
@[simp] theorem x_cont : execS W md en .cont ρ = .ok .cnt ρ := rfl
/-- a loop's turn behind its body -/
def turn (k : Env → Res Fl) (f : Fl) (ρ : Env) : Res Fl := match f with
  | .nx => k ρ
  | .cnt => k ρ
  | .brk => .ok .nx ρ
  | .ret e => .ok (.ret e) ρ
@[simp] theorem turn_nx {k : Env → Res Fl} : turn k .nx ρ = k ρ := rfl
@[simp] theorem turn_cnt {k : Env → Res Fl} : turn k .cnt ρ = k ρ := rfl
@[simp] theorem turn_brk {k : Env → Res Fl} : turn k .brk ρ = .ok .nx ρ := rfl
@[simp] theorem turn_ret {k : Env → Res Fl} {x : EV} : turn k (.ret x) ρ = .ok (.ret x) ρ := rfl
theorem forE_nil {tg : Tg} : forE W md en tg ss [] ρ = .ok .nx ρ := rfl
theorem forE_cons {tg : Tg} {d : PyData} {ds : List PyData} : forE W md en tg ss (d :: ds) ρ = on (assignT md tg d ρ) fun ρ => (execSs W md en ss ρ).bind fun f ρ => turn (forE W md en tg ss ds) f ρ := by
  refine on_ext fun ρ => bind_ext fun f ρ => ?_
  cases f <;> rfl
theorem whileE_succ {n : Nat} : whileE W md en c ss (n + 1) ρ = (evalT md en c ρ).bind fun b ρ => if b = true then (execSs W md en ss ρ).bind fun f ρ => turn (whileE W md en c ss n) f ρ else .ok .nx ρ := by
  refine bind_ext fun b ρ => ite_congr rfl (fun _ => bind_ext fun f ρ => ?_) fun _ => rfl
  cases f <;> rfl
end
/-- a def's end -/
def finR (np : Nat) : Res Fl → CRes
  | .ok .nx ρ => back np (.val .none) ρ
  | .ok (.ret e) ρ => back np e ρ
  | .exc x ρ => outs np ρ (.exc x)
  | _ => .stuck
@[simp] theorem finR_nx {np : Nat} {ρ : Env} : finR np (.ok .nx ρ) = back np (.val .none) ρ := rfl
@[simp] theorem finR_ret {np : Nat} {ρ : Env} {e : EV} : finR np (.ok (.ret e) ρ) = back np e ρ := rfl
theorem runF_eq {W : Nat} {en : En} {fd : FD} {ss : List Slot} (h : ss.length = fd.np) : runF W en fd ss = finR fd.np (execSs W fd.md en fd.body (ss ++ List.replicate (fd.ns - fd.np) .un)) := by
  unfold runF
  rw [if_pos h]
  cases execSs W fd.md en fd.body (ss ++ List.replicate (fd.ns - fd.np) .un) with
  | ok f ρ => cases f <;> rfl
  | _ => rfl
theorem callF_eq {W k f : Nat} {T : List FD} {fd : FD} {ss : List Slot} (h : T[f]? = some fd) (h2 : ss.length = fd.np) : callF W T (k + 1) f ss = finR fd.np (execSs W fd.md (enK W T k .stuck) fd.body (ss ++ List.replicate (fd.ns - fd.np) .un)) := by
  rw [callF_succ, h]
  exact runF_eq h2
@[simp] theorem enK_modes {W k : Nat} {T : List FD} {r : CRes} : (enK W T k r).modes = modesOf T := rfl
@[simp] theorem enK_call {W k : Nat} {T : List FD} {r : CRes} : (enK W T k r).call = callF W T k := rfl
@[simp] theorem enK_lam {W k f : Nat} {T : List FD} {r r' : CRes} : (enK W T k r).lam f r' = if 3 ≤ k then lamF W T k f r' else .stuck := rfl
@[simp] theorem enK_act {W k : Nat} {T : List FD} {r : CRes} : (enK W T k r).act = r := rfl
@[simp] theorem enT_modes {T : List FD} {c t : Calls} {b : Bool} : (enT T c t b).modes = modesOf T := rfl
@[simp] theorem enT_call {T : List FD} {c t : Calls} {b : Bool} : (enT T c t b).call = c := rfl
@[simp] theorem enT_low {T : List FD} {c t : Calls} {b : Bool} : (enT T c t b).low = t := rfl
@[simp] theorem enK_deep {W k : Nat} {T : List FD} {r : CRes} : (enK W T k r).deep = decide (2 ≤ k) := rfl
@[simp] theorem enT_deep {T : List FD} {c t : Calls} {b : Bool} : (enT T c t b).deep = b := rfl
@[simp] theorem enK_low {W k : Nat} {T : List FD} {r : CRes} : (enK W T k r).low = callF W T (k - 2) := rfl
/-- a lambda's end; the end of what was handed one -/
def finT : Res EV → CRes
  | .ok e _ => .ok e []
  | .exc x _ => .exc x []
  | .stuck => .stuck
@[simp] theorem finT_ok {e : EV} {ρ : Env} : finT (.ok e ρ) = .ok e [] := rfl
@[simp] theorem finT_exc {x : Exc} {ρ : Env} : finT (.exc x ρ) = .exc x [] := rfl
theorem thunk_eq {W k g : Nat} {T : List FD} {r : CRes} {fd : FD} {m : ME} {ss : List Slot} (h : T[g]? = some fd) (hb : fd.body = [.ret m]) : (enK W T k r).thunk g ss = finT (evalE fd.md (enT T (callF W T (k - 2)) (callF W T (k - 4)) (decide (4 ≤ k))) m ss) := by
  show (match T[g]? with | some fd => runT W (enT T (callF W T (k - 2)) (callF W T (k - 4)) (decide (4 ≤ k))) fd ss | none => .stuck) = _
  rw [h]
  show runT W _ fd ss = _
  unfold runT
  rw [hb]
  show (match evalE fd.md (enT T (callF W T (k - 2)) (callF W T (k - 4)) (decide (4 ≤ k))) m ss with | .ok e _ => CRes.ok e [] | .exc x _ => .exc x [] | .stuck => .stuck) = _
  cases evalE fd.md (enT T (callF W T (k - 2)) (callF W T (k - 4)) (decide (4 ≤ k))) m ss <;> rfl
def backM (ρ : Env) : Option Slot → CRes
  | some (.own d) => .ok (.fr d) []
  | some (.val d) => .ok (.val d) []
  | _ => .stuck
@[simp] theorem backM_own {ρ : Env} {d : PyData} : backM ρ (some (.own d)) = .ok (.fr d) [] := rfl
@[simp] theorem backM_val {ρ : Env} {d : PyData} : backM ρ (some (.val d)) = .ok (.val d) [] := rfl
@[simp] theorem backL_val {ρ : Env} {d : PyData} : backL (.val d) ρ = .ok (.val d) [] := rfl
@[simp] theorem backL_fr {ρ : Env} {d : PyData} : backL (.fr d) ρ = .ok (.fr d) [] := rfl
@[simp] theorem backL_al {ρ : Env} {i : Nat} : backL (.al i) ρ = backM ρ ρ[i]? := by
  show (match ρ[i]? with | some (.own d) => CRes.ok (.fr d) [] | some (.val d) => .ok (.val d) [] | _ => .stuck) = _
  cases ρ[i]? with
  | none => rfl
  | some s => cases s <;> rfl
def finL : Res Fl → CRes
  | .ok .nx _ => .ok (.val .none) []
  | .ok (.ret e) ρ => backL e ρ
  | _ => .stuck
@[simp] theorem finL_nx {ρ : Env} : finL (.ok .nx ρ) = .ok (.val .none) [] := rfl
@[simp] theorem finL_ret {ρ : Env} {e : EV} : finL (.ok (.ret e) ρ) = backL e ρ := rfl
theorem lamF_eq {W k f : Nat} {T : List FD} {r : CRes} {fd : FD} (h : T[f]? = some fd) : lamF W T (k + 1) f r = finL (execSs W fd.md (enK W T k r) fd.body (.clo :: List.replicate (fd.ns - 1) .un)) := by
  rw [lamF_succ, h]
  show runL W _ fd = _
  unfold runL
  cases execSs W fd.md (enK W T k r) fd.body (.clo :: List.replicate (fd.ns - 1) .un) with
  | ok f ρ => cases f <;> rfl
  | _ => rfl
def backA (np i : Nat) (ρ : Env) : Option Slot → CRes
  | some (.own d) => if i < np then outs np (ρ.set i (.val d)) (.ok (.val d)) else outs np ρ (.ok (.fr d))
  | some (.val d) => outs np ρ (.ok (.val d))
  | _ => .stuck
@[simp] theorem backA_own {np i : Nat} {ρ : Env} {d : PyData} : backA np i ρ (some (.own d)) = if i < np then outs np (ρ.set i (.val d)) (.ok (.val d)) else outs np ρ (.ok (.fr d)) := rfl
@[simp] theorem backA_val {np i : Nat} {ρ : Env} {d : PyData} : backA np i ρ (some (.val d)) = outs np ρ (.ok (.val d)) := rfl
@[simp] theorem back_val {np : Nat} {ρ : Env} {d : PyData} : back np (.val d) ρ = outs np ρ (.ok (.val d)) := rfl
@[simp] theorem back_fr {np : Nat} {ρ : Env} {d : PyData} : back np (.fr d) ρ = outs np ρ (.ok (.fr d)) := rfl
@[simp] theorem back_al {np i : Nat} {ρ : Env} : back np (.al i) ρ = backA np i ρ ρ[i]? := by
  unfold back
  by_cases h : i < np
  · simp only [if_pos h]
    rw [settle_al]
    cases ρ[i]? with
    | none => rfl
    | some s =>
      cases s with
      | own d => show outs np (ρ.set i (.val d)) (.ok (.val d)) = if i < np then _ else _; rw [if_pos h]
      | _ => rfl
  · simp only [if_neg h]
    cases ρ[i]? with
    | none => rfl
    | some s =>
      cases s with
      | own d => show outs np ρ (.ok (.fr d)) = if i < np then _ else _; rw [if_neg h]
      | _ => rfl
@[simp] theorem outs_def {np : Nat} {ρ : Env} {f : List Slot → CRes} : outs np ρ f = if np ≤ ρ.length ∧ (ρ.take np).all isVal = true then f (ρ.take np) else .stuck := rfl
@[simp] theorem isVal_val {d : PyData} : isVal (.val d) = true := rfl
@[simp] theorem isVal_own {d : PyData} : isVal (.own d) = true := rfl
/-! ### data -/
@[simp] theorem szl_val : szl = 16777216 := rfl
@[simp] theorem tru_bool {b : Bool} : truthy (.bool b) = some b := rfl
@[simp] theorem tru_int {i : Int} : truthy (.int i) = some (i != 0) := rfl
@[simp] theorem tru_list {l : List PyData} : truthy (.list l) = some (!l.isEmpty) := rfl
@[simp] theorem tru_tuple {l : List PyData} : truthy (.tuple l) = some (!l.isEmpty) := rfl
@[simp] theorem tru_none : truthy .none = some false := rfl
@[simp] theorem bin_add {a b : Int} : binD .add (.int a) (.int b) = some (.val (.int (a + b))) := rfl
@[simp] theorem bin_sub {a b : Int} : binD .sub (.int a) (.int b) = some (.val (.int (a - b))) := rfl
theorem bin_mulR {a b : Int} (h : -(2 ^ 64) < b ∧ b < 2 ^ 64) : binD .mul (.int a) (.int b) = some (.val (.int (a * b))) := if_pos (.inr h)
theorem bin_mulL {a b : Int} (h : -(2 ^ 64) < a ∧ a < 2 ^ 64) : binD .mul (.int a) (.int b) = some (.val (.int (a * b))) := if_pos (.inl h)
@[simp] theorem bin_fdiv {a b : Int} (h : 0 < b) (h2 : b < 1073741824) : binD .fdiv (.int a) (.int b) = some (.val (.int (a / b))) := if_pos ⟨h, h2⟩
@[simp] theorem bin_mod {a b : Int} (h : 0 < b) : binD .mod (.int a) (.int b) = some (.val (.int (a % b))) := if_pos h
@[simp] theorem bin_pow {a b : Int} (h : 0 ≤ b) (h2 : b ≤ 1000000) (h3 : a.natAbs < 18446744073709551616) : binD .pow (.int a) (.int b) = some (.val (.int (a ^ b.toNat))) := if_pos ⟨h, h2, h3⟩
@[simp] theorem bin_addT {a b : List PyData} : binD .add (.tuple a) (.tuple b) = if a.length + b.length ≤ szl then some (.val (.tuple (a ++ b))) else none := rfl
@[simp] theorem bin_addL {a b : List PyData} : binD .add (.list a) (.list b) = if a.length + b.length ≤ szl then some (.fr (.list (a ++ b))) else none := rfl
theorem eqD_of {a b : PyData} (h : eqT a b = none) (h1 : a.canLay0 = true) (h2 : b.canLay0 = true) (h3 : min a.depth b.depth ≤ 64) : eqD a b = some (PyData.eqv a b) := by
  unfold eqD
  rw [h]
  exact if_pos ⟨h1, h2, h3⟩
@[simp] theorem eq_int {a b : Int} : eqD (.int a) (.int b) = some (decide (a = b)) := eqD_of rfl rfl rfl (by show min 0 0 ≤ 64; decide)
@[simp] theorem eq_bool {a b : Bool} : eqD (.bool a) (.bool b) = some (a == b) := eqD_of rfl rfl rfl (by show min 0 0 ≤ 64; decide)
@[simp] theorem eq_str {a b : Str} : eqD (.str a) (.str b) = some (a == b) := rfl
@[simp] theorem c_eq {a b : PyData} : cmpD .eq a b = eqD a b := by cases a <;> cases b <;> rfl
@[simp] theorem c_ne {a b : PyData} : cmpD .ne a b = (eqD a b).map (!·) := by cases a <;> cases b <;> rfl
@[simp] theorem c_lt {a b : Int} : cmpD .lt (.int a) (.int b) = some (decide (a < b)) := rfl
@[simp] theorem c_le {a b : Int} : cmpD .le (.int a) (.int b) = some (decide (a ≤ b)) := rfl
@[simp] theorem c_gt {a b : Int} : cmpD .gt (.int a) (.int b) = some (decide (b < a)) := rfl
@[simp] theorem c_ge {a b : Int} : cmpD .ge (.int a) (.int b) = some (decide (b ≤ a)) := rfl
@[simp] theorem c_in {a b : PyData} : cmpD .isin a b = inD a b := by cases a <;> cases b <;> rfl
@[simp] theorem c_notin {a b : PyData} : cmpD .notin a b = (inD a b).map (!·) := by cases a <;> cases b <;> rfl
@[simp] theorem c_is {a b : PyData} : cmpD .is a b = isD a b := by cases a <;> cases b <;> rfl
@[simp] theorem c_isnot {a b : PyData} : cmpD .isnot a b = (isD a b).map (!·) := by cases a <;> cases b <;> rfl
@[simp] theorem is_none {a : PyData} : isD a .none = some (isNone a) := by cases a <;> rfl
@[simp] theorem is_bool {a b : Bool} : isD (.bool a) (.bool b) = some (a == b) := rfl
theorem atI_pos {α : Type} {l : List α} {i : Int} (h : 0 ≤ i) : L2.atI l i = l[i.toNat]? := by
  unfold L2.atI L2.ixN
  rw [if_pos h]
  by_cases h2 : i < l.length
  · rw [if_pos h2]
    rfl
  · rw [if_neg h2, List.getElem?_eq_none (by omega)]
    rfl
@[simp] theorem idx_list {l : List PyData} {i : Int} (h : 0 ≤ i) : idxD (.list l) (.int i) = l[i.toNat]? := atI_pos h
@[simp] theorem idx_tuple {l : List PyData} {i : Int} (h : 0 ≤ i) : idxD (.tuple l) (.int i) = l[i.toNat]? := atI_pos h
@[simp] theorem ixN_pos {n : Nat} {i : Int} (h : 0 ≤ i) (h2 : i < n) : L2.ixN n i = some i.toNat := by
  unfold L2.ixN
  rw [if_pos h, if_pos h2]
@[simp] theorem len_list {l : List PyData} : bltD .len [.list l] = some (.val (.int l.length)) := rfl
@[simp] theorem len_dict {l : List (PyData × PyData)} (n : isIns l = false) : bltD .len [.dict l] = some (.val (.int l.length)) := if_neg (by rw [n]; exact Bool.false_ne_true)
@[simp] theorem dict_tuple {l : List PyData} : bltD .dict [.tuple l] = (layKD [] l).map fun kvs => .fr (.dict kvs) := rfl
@[simp] theorem dict_list {l : List PyData} : bltD .dict [.list l] = (layKD [] l).map fun kvs => .fr (.dict kvs) := rfl
@[simp] theorem dict_dict {l : List (PyData × PyData)} (n : isIns l = false) : bltD .dict [.dict l] = some (.fr (.dict l)) := if_neg (by rw [n]; exact Bool.false_ne_true)
@[simp] theorem idx_dict {kvs : List (PyData × PyData)} {d : PyData} (n : isIns kvs = false) : idxD (.dict kvs) d = (keyOf d).bind fun k => findK k kvs := by
  have e : idxD (.dict kvs) d = if isIns kvs = true then none else (keyOf d).bind fun k => findK k kvs := by cases d <;> rfl
  rw [e, n]
  rfl
@[simp] theorem in_dict {kvs : List (PyData × PyData)} {d : PyData} (n : isIns kvs = false) : inD d (.dict kvs) = (keyOf d).map fun k => (findK k kvs).isSome := by
  have e : inD d (.dict kvs) = if isIns kvs = true then none else (keyOf d).map fun k => (findK k kvs).isSome := by cases d <;> rfl
  rw [e, n]
  rfl
@[simp] theorem itm_dict {kvs : List (PyData × PyData)} (n : isIns kvs = false) : itemsD (.dict kvs) = some (kvs.map (·.1)) := if_neg (by rw [n]; exact Bool.false_ne_true)
@[simp] theorem len_tuple {l : List PyData} : bltD .len [.tuple l] = some (.val (.int l.length)) := rfl
@[simp] theorem int_int {i : Int} : bltD .int [.int i] = some (.val (.int i)) := rfl
@[simp] theorem abs_int {i : Int} : bltD .abs [.int i] = some (.val (.int (if i < 0 then -i else i))) := rfl
@[simp] theorem tup_list {l : List PyData} : bltD .tuple [.list l] = some (.val (.tuple l)) := rfl
@[simp] theorem tup_tuple {l : List PyData} : bltD .tuple [.tuple l] = some (.val (.tuple l)) := rfl
@[simp] theorem all_list {l : List PyData} : bltD .all [.list l] = (boolsOf l).map fun bs => .val (.bool (bs.all id)) := rfl
@[simp] theorem itm_list {l : List PyData} : itemsD (.list l) = some l := rfl
@[simp] theorem itm_tuple {l : List PyData} : itemsD (.tuple l) = some l := rfl
@[simp] theorem rev_list {l : List PyData} : revD (.list l) = some (.fr (.list l.reverse)) := rfl
@[simp] theorem rev_tuple {l : List PyData} : revD (.tuple l) = some (.val (.tuple l.reverse)) := rfl
@[simp] theorem free_def {md : List Bool} {i : Nat} : free md i = ((md[i]?).getD false == false) := rfl
/-! ### loops -/
/-- a comprehension without tests, whose element is told -/
theorem comp_map {as : PyData → Env → Res Bool} {elt : Env → Res PyData} {wp : Env → Env} {f : PyData → PyData} {ρ : Env} : ∀ {ds acc : List PyData}, acc.length + ds.length ≤ szl → (∀ d ∈ ds, ∃ ρ1, as d ρ = .ok true ρ1 ∧ ∃ ρ2, elt ρ1 = .ok (f d) ρ2 ∧ wp ρ2 = ρ) → compL as elt wp ds acc ρ = .ok (acc ++ ds.map f) ρ
  | [], acc, _, _ => by
    show Res.ok acc ρ = _
    rw [List.map_nil, List.append_nil]
  | d :: ds, acc, hl, h => by
    obtain ⟨ρ1, e1, ρ2, e2, e3⟩ := h d (List.mem_cons_self ..)
    show (as d ρ).bind _ = _
    rw [e1]
    show (elt ρ1).bind _ = _
    rw [e2]
    have hl' : acc.length + (ds.length + 1) ≤ szl := hl
    show (if acc.length < szl then compL as elt wp ds (acc ++ [f d]) (wp ρ2) else .stuck) = _
    rw [if_pos (by omega), e3, comp_map (by rw [List.length_append, List.length_singleton]; omega) fun d hd => h d (List.mem_cons_of_mem _ hd)]
    rw [List.append_assoc]
    rfl
/-- a list of elements that are told -/
theorem lc_map {md : List Bool} {en : En} {ws : List Nat} {tg : Tg} {e : ME} {ds : List PyData} {ρ ρ0 ρ' : Env} (f : PyData → PyData) (hw : ws.all (free md) = true) (hl : ds.length ≤ szl) (h0 : wipeS ws ρ = ρ0) (hr : restore ws ρ ρ0 = ρ')
    (h : ∀ d ∈ ds, ∃ ρ1, assignT md tg d ρ0 = some ρ1 ∧ ∃ ρ2, (evalE md en e ρ1).bind settle = .ok (f d) ρ2 ∧ wipeS ws ρ2 = ρ0) : lcE md en ws tg [] e ds ρ = .ok (.fr (.list (ds.map f))) ρ' := by
  subst h0 hr
  unfold lcE
  rw [if_pos hw, comp_map (f := f) (ρ := wipeS ws ρ) (by simpa using hl) fun d hd => ?_]
  · rfl
  · obtain ⟨ρ1, e1, ρ2, e2, e3⟩ := h d hd
    refine ⟨ρ1, ?_, ρ2, e2, e3⟩
    rw [e1]
    rfl
/-- .. of elements whose reading changes what it stands over -/
theorem comp_run {as : PyData → Env → Res Bool} {elt : Env → Res PyData} {wp : Env → Env} (I : List PyData → Env → Prop) : ∀ {ds acc : List PyData} {ρ : Env}, acc.length + ds.length ≤ szl → I acc ρ →
    (∀ d ∈ ds, ∀ acc ρ, I acc ρ → ∃ ρ1, as d ρ = .ok true ρ1 ∧ ∃ y ρ2, elt ρ1 = .ok y ρ2 ∧ I (acc ++ [y]) (wp ρ2)) → ∃ l ρ', compL as elt wp ds acc ρ = .ok l ρ' ∧ I l ρ' ∧ l.length = acc.length + ds.length
  | [], acc, ρ, _, h0, _ => ⟨acc, ρ, rfl, h0, rfl⟩
  | d :: ds, acc, ρ, hl, h0, h => by
    obtain ⟨ρ1, e1, y, ρ2, e2, i2⟩ := h d (List.mem_cons_self ..) acc ρ h0
    have hl' : acc.length + (ds.length + 1) ≤ szl := hl
    obtain ⟨l, ρ', e3, i3, n3⟩ := comp_run I (ds := ds) (acc := acc ++ [y]) (ρ := wp ρ2) (by rw [List.length_append, List.length_singleton]; omega) i2 fun d hd => h d (List.mem_cons_of_mem _ hd)
    refine ⟨l, ρ', ?_, i3, by rw [n3, List.length_append, List.length_singleton, List.length_cons]; omega⟩
    show (as d ρ).bind _ = _
    rw [e1]
    show (elt ρ1).bind _ = _
    rw [e2]
    show (if acc.length < szl then compL as elt wp ds (acc ++ [y]) (wp ρ2) else .stuck) = _
    rw [if_pos (by omega), e3]
theorem lc_run {md : List Bool} {en : En} {ws : List Nat} {tg : Tg} {e : ME} {ds : List PyData} {ρ : Env} (I : List PyData → Env → Prop) (hw : ws.all (free md) = true) (hl : ds.length ≤ szl) (h0 : I [] (wipeS ws ρ))
    (h : ∀ d ∈ ds, ∀ acc ρ, I acc ρ → ∃ ρ1, assignT md tg d ρ = some ρ1 ∧ ∃ y ρ2, (evalE md en e ρ1).bind settle = .ok y ρ2 ∧ I (acc ++ [y]) (wipeS ws ρ2)) : ∃ l ρ', lcE md en ws tg [] e ds ρ = .ok (.fr (.list l)) (restore ws ρ ρ') ∧ I l ρ' ∧ l.length = ds.length := by
  obtain ⟨l, ρ', e1, i1, n1⟩ := comp_run (as := fun d ρ => on (assignT md tg d ρ) fun ρ => evalCs md en [] ρ) (elt := fun ρ => (evalE md en e ρ).bind settle) (wp := wipeS ws) I (ds := ds) (acc := []) (by simpa using hl) h0 fun d hd acc ρ i => by
    obtain ⟨ρ1, e1, y, ρ2, e2, i2⟩ := h d hd acc ρ i
    refine ⟨ρ1, ?_, y, ρ2, e2, i2⟩
    rw [e1]
    rfl
  refine ⟨l, ρ', ?_, i1, by simpa using n1⟩
  unfold lcE
  rw [if_pos hw, e1]
  rfl
/-- a for whose turns keep what is said -/
theorem for_run {W : Nat} {md : List Bool} {en : En} {tg : Tg} {ss : List MS} (I : Nat → Env → Prop) : ∀ {ds : List PyData} {n : Nat} {ρ : Env}, I n ρ →
    (∀ (j : Nat) d ρ, ds[j]? = some d → I (n + j) ρ → ∃ ρ1, assignT md tg d ρ = some ρ1 ∧ ∃ ρ2, execSs W md en ss ρ1 = .ok .nx ρ2 ∧ I (n + j + 1) ρ2) → ∃ ρ', forE W md en tg ss ds ρ = .ok .nx ρ' ∧ I (n + ds.length) ρ'
  | [], n, ρ, h0, _ => ⟨ρ, rfl, h0⟩
  | d :: ds, n, ρ, h0, h => by
    obtain ⟨ρ1, e1, ρ2, e2, i2⟩ := h 0 d ρ rfl h0
    obtain ⟨ρ', e3, i3⟩ := for_run I (ds := ds) (n := n + 1) (ρ := ρ2) i2 fun j d ρ hj i => by
      have e : n + 1 + j = n + (j + 1) := by omega
      rw [e] at i ⊢
      exact h (j + 1) d ρ hj i
    refine ⟨ρ', ?_, by
      have e : n + (d :: ds).length = n + 1 + ds.length := by rw [List.length_cons]; omega
      rw [e]
      exact i3⟩
    rw [forE_cons, e1]
    show (execSs W md en ss ρ1).bind _ = _
    rw [e2]
    exact e3
theorem boolsOf_map {α : Type} (g : α → Bool) : ∀ l : List α, boolsOf (l.map fun x => .bool (g x)) = some (l.map g)
  | [] => rfl
  | x :: l => by
    show (boolsOf (l.map fun x => .bool (g x))).map _ = _
    rw [boolsOf_map g l]
    rfl
theorem range_nat {n : Nat} (h : n ≤ 1000000) : rangeD 0 (n : Int) = some ((List.range n).map fun (j : Nat) => PyData.int (j : Int)) := by
  unfold rangeD small
  rw [if_pos ⟨by decide, by simp; omega⟩]
  simp
mutual
/-- data without dicts, of short lists -/
def nice : PyData → Bool
  | .list l => decide (l.length ≤ 1000) && niceAll l
  | .tuple l => decide (l.length ≤ 1000) && niceAll l
  | .dict _ => false
  | _ => true
def niceAll : List PyData → Bool
  | [] => true
  | x :: l => nice x && niceAll l
end
theorem niceAll_mem : ∀ {l : List PyData} {x : PyData}, niceAll l = true → x ∈ l → nice x = true
  | y :: l, x, h, m => by
    have h : (nice y && niceAll l) = true := h
    rw [Bool.and_eq_true] at h
    rcases List.mem_cons.mp m with rfl | m
    · exact h.1
    · exact niceAll_mem h.2 m
theorem depthAll_mem : ∀ {l : List PyData} {x : PyData}, x ∈ l → x.depth ≤ PyData.depthAll l
  | y :: l, x, m => by
    show _ ≤ max y.depth (PyData.depthAll l)
    rcases List.mem_cons.mp m with rfl | m
    · omega
    · have := depthAll_mem m
      omega
/-! ### errors, lambdas, further walks -/
@[simp] theorem afterC_exc {as : List AV} {ρ : Env} {x : Exc} {outs : List Slot} : afterC as ρ (.exc x outs) = .exc x (putBack as outs ρ) := rfl
@[simp] theorem finR_exc {np : Nat} {ρ : Env} {x : Exc} : finR np (.exc x ρ) = outs np ρ (.exc x) := rfl
@[simp] theorem hits_none {x : Exc} : hits none x = true := rfl
@[simp] theorem hits_some {n c : Nat} {d : PyData} : hits (some n) ⟨c, d⟩ = (c == n) := rfl
@[simp] theorem okRet_nx {i : Nat} : okRet i .nx = true := rfl
@[simp] theorem okRet_brk {i : Nat} : okRet i .brk = true := rfl
@[simp] theorem okRet_cnt {i : Nat} : okRet i .cnt = true := rfl
@[simp] theorem okRet_val {i : Nat} {d : PyData} : okRet i (.ret (.val d)) = true := rfl
@[simp] theorem okRet_fr {i : Nat} {d : PyData} : okRet i (.ret (.fr d)) = true := rfl
@[simp] theorem okRet_al {i j : Nat} : okRet i (.ret (.al j)) = (j != i) := rfl
@[simp] theorem clearX_nil : clearX [] = [] := rfl
@[simp] theorem clearX_cons {s : Slot} {ρ : Env} : clearX (s :: ρ) = unX s :: clearX ρ := rfl
@[simp] theorem unX_exc {x : Exc} : unX (.exc x) = .un := rfl
@[simp] theorem unX_val {d : PyData} : unX (.val d) = .val d := rfl
@[simp] theorem unX_own {d : PyData} : unX (.own d) = .own d := rfl
@[simp] theorem unX_un : unX .un = .un := rfl
@[simp] theorem unX_clo : unX .clo = .clo := rfl
/-- a try with its suite behind it -/
def tryE (run : Env → Res Fl) (c : Option Nat) (i : Nat) : Res Fl → Res Fl
  | .exc x ρ => if hits c x = true then (run (ρ.set i (.exc x))).nox.bind fun f ρ => if okRet i f = true then .ok f ((clearX ρ).set i .un) else .stuck else .exc x ρ
  | r => r
@[simp] theorem tryE_ok {run : Env → Res Fl} {c : Option Nat} {i : Nat} {f : Fl} {ρ : Env} : tryE run c i (.ok f ρ) = .ok f ρ := rfl
@[simp] theorem tryE_exc {run : Env → Res Fl} {c : Option Nat} {i : Nat} {x : Exc} {ρ : Env} : tryE run c i (.exc x ρ) = if hits c x = true then (run (ρ.set i (.exc x))).nox.bind fun f ρ => if okRet i f = true then .ok f ((clearX ρ).set i .un) else .stuck else .exc x ρ := rfl
def tryO (run : Env → Res Fl) (c : Option Nat) : Res Fl → Res Fl
  | .exc x ρ => if hits c x = true then (run ρ).nox else .exc x ρ
  | r => r
@[simp] theorem tryO_ok {run : Env → Res Fl} {c : Option Nat} {f : Fl} {ρ : Env} : tryO run c (.ok f ρ) = .ok f ρ := rfl
@[simp] theorem tryO_exc {run : Env → Res Fl} {c : Option Nat} {x : Exc} {ρ : Env} : tryO run c (.exc x ρ) = if hits c x = true then (run ρ).nox else .exc x ρ := rfl
def actE (en : En) (ρ : Env) : Option Slot → Res EV
  | some .clo => match en.act with
    | .ok (.al _) _ => .stuck
    | .ok e _ => .ok e ρ
    | .exc x _ => .exc x ρ
    | .stuck => .stuck
  | _ => .stuck
def actR (ρ : Env) : CRes → Res EV
  | .ok (.al _) _ => .stuck
  | .ok e _ => .ok e ρ
  | .exc x _ => .exc x ρ
  | .stuck => .stuck
@[simp] theorem actR_val {ρ : Env} {d : PyData} {o : List Slot} : actR ρ (.ok (.val d) o) = .ok (.val d) ρ := rfl
@[simp] theorem actR_fr {ρ : Env} {d : PyData} {o : List Slot} : actR ρ (.ok (.fr d) o) = .ok (.fr d) ρ := rfl
@[simp] theorem actR_exc {ρ : Env} {x : Exc} {o : List Slot} : actR ρ (.exc x o) = .exc x ρ := rfl
@[simp] theorem actE_clo {en : En} {ρ : Env} : actE en ρ (some .clo) = actR ρ en.act := by
  show (match en.act with
    | .ok (.al _) _ => Res.stuck
    | .ok e _ => .ok e ρ
    | .exc x _ => .exc x ρ
    | .stuck => .stuck) = _
  cases en.act with
  | ok e o => cases e <;> rfl
  | _ => rfl
def lamE (ρ : Env) : CRes → Res EV
  | .ok (.al _) _ => .stuck
  | .ok e _ => .ok e ρ
  | _ => .stuck
@[simp] theorem lamE_val {ρ : Env} {d : PyData} {o : List Slot} : lamE ρ (.ok (.val d) o) = .ok (.val d) ρ := rfl
@[simp] theorem lamE_fr {ρ : Env} {d : PyData} {o : List Slot} : lamE ρ (.ok (.fr d) o) = .ok (.fr d) ρ := rfl
def lockOne (i : Nat) (ρ : Env) : Option Slot → Env
  | some (.own d) => ρ.set i (.val d)
  | _ => ρ
@[simp] theorem lockOne_own {i : Nat} {ρ : Env} {d : PyData} : lockOne i ρ (some (.own d)) = ρ.set i (.val d) := rfl
@[simp] theorem lockOne_val {i : Nat} {ρ : Env} {d : PyData} : lockOne i ρ (some (.val d)) = ρ := rfl
@[simp] theorem lockOne_un {i : Nat} {ρ : Env} : lockOne i ρ (some .un) = ρ := rfl
@[simp] theorem lockAll_nil {ρ : Env} : lockAll [] ρ = ρ := rfl
@[simp] theorem lockAll_cons {i : Nat} {is : List Nat} {ρ : Env} : lockAll (i :: is) ρ = lockAll is (lockOne i ρ ρ[i]?) := by
  show lockAll is (match ρ[i]? with | some (.own d) => ρ.set i (.val d) | _ => ρ) = _
  cases ρ[i]? with
  | none => rfl
  | some s => cases s <;> rfl
@[simp] theorem valsOf_nil : valsOf [] = [] := rfl
@[simp] theorem valsOf_cons {s : Slot} {ρ : Env} : valsOf (s :: ρ) = valS s :: valsOf ρ := rfl
@[simp] theorem valS_val {d : PyData} : valS (.val d) = .val d := rfl
@[simp] theorem valS_own {d : PyData} : valS (.own d) = .un := rfl
@[simp] theorem valS_un : valS .un = .un := rfl
@[simp] theorem valS_clo : valS .clo = .un := rfl
@[simp] theorem valS_exc {x : Exc} : valS (.exc x) = .un := rfl
def isxE (c : Nat) (ρ : Env) : Option Slot → Res EV
  | some (.exc x) => .ok (.val (.bool (x.cls == c))) ρ
  | _ => .stuck
@[simp] theorem isxE_exc {c : Nat} {ρ : Env} {x : Exc} : isxE c ρ (some (.exc x)) = .ok (.val (.bool (x.cls == c))) ρ := rfl
def isbE (ρ : Env) : Option Slot → Res EV
  | some (.exc _) => .ok (.val (.bool true)) ρ
  | _ => .stuck
@[simp] theorem isbE_exc {ρ : Env} {x : Exc} : isbE ρ (some (.exc x)) = .ok (.val (.bool true)) ρ := rfl
def fldE (c : Nat) (ρ : Env) : Option Slot → Res EV
  | some (.exc x) => if x.cls = c then .ok (.val x.fld) ρ else .stuck
  | _ => .stuck
@[simp] theorem fldE_exc {c : Nat} {ρ : Env} {x : Exc} : fldE c ρ (some (.exc x)) = if x.cls = c then .ok (.val x.fld) ρ else .stuck := rfl
def range3O (ρ : Env) : PyData → PyData → PyData → Res (List PyData)
  | .int i, .int j, .int k => ofO (rangeD3 i j k) ρ
  | _, _, _ => .stuck
@[simp] theorem range3O_int {ρ : Env} {i j k : Int} : range3O ρ (.int i) (.int j) (.int k) = ofO (rangeD3 i j k) ρ := rfl
def enumO (ρ : Env) : PyData → Res (List PyData)
  | .list l => .ok (l.zipIdx.map fun (d, j) => .tuple [.int j, d]) ρ
  | .tuple l => .ok (l.zipIdx.map fun (d, j) => .tuple [.int j, d]) ρ
  | _ => .stuck
@[simp] theorem enumO_tuple {ρ : Env} {l : List PyData} : enumO ρ (.tuple l) = .ok (l.zipIdx.map fun (d, j) => .tuple [.int j, d]) ρ := rfl
@[simp] theorem enumO_list {ρ : Env} {l : List PyData} : enumO ρ (.list l) = .ok (l.zipIdx.map fun (d, j) => .tuple [.int j, d]) ρ := rfl
def zipO (ρ : Env) : PyData → PyData → Res (List PyData)
  | .list l, .list l' => if ((l.zip l').all fun (d, d') => !isLib [d, d']) = true then .ok ((l.zip l').map fun (d, d') => .tuple [d, d']) ρ else .stuck
  | _, _ => .stuck
@[simp] theorem zipO_list {ρ : Env} {l l' : List PyData} : zipO ρ (.list l) (.list l') = if ((l.zip l').all fun (d, d') => !isLib [d, d']) = true then .ok ((l.zip l').map fun (d, d') => .tuple [d, d']) ρ else .stuck := rfl
section
variable {W : Nat} {md : List Bool} {en : En} {ρ : Env} {a b c e : ME} {es : List ME} {s : MS} {ss tt : List MS}
@[simp] theorem x_raise0 {n : Nat} : execS W md en (.raise0 n) ρ = .exc ⟨n, .none⟩ ρ := rfl
@[simp] theorem x_raise1 {n : Nat} : execS W md en (.raise1 n e) ρ = ((evalE md en e ρ).bind settle).bind fun d ρ => .exc ⟨n, d⟩ ρ := rfl
@[simp] theorem x_tryAs {i : Nat} {n : Option Nat} : execS W md en (.tryAs ss n i tt) ρ = if free md i = true then tryE (execSs W md en tt) n i (execSs W md en ss ρ) else .stuck := by
  refine ite_congr rfl (fun _ => ?_) fun _ => rfl
  cases execSs W md en ss ρ <;> rfl
@[simp] theorem x_tryOnly {n : Option Nat} : execS W md en (.tryOnly ss n tt) ρ = tryO (execSs W md en tt) n (execSs W md en ss ρ) := by
  show (match execSs W md en ss ρ with
    | .exc x ρ => if hits n x = true then (execSs W md en tt ρ).nox else .exc x ρ
    | r => r) = _
  cases execSs W md en ss ρ <;> rfl
@[simp] theorem ev_act : evalE md en .act ρ = actE en ρ ρ[0]? := by
  show (match (ρ[0]? : Option Slot) with
    | some Slot.clo => (match en.act with
      | .ok (.al _) _ => Res.stuck
      | .ok e _ => .ok e ρ
      | .exc x _ => .exc x ρ
      | .stuck => .stuck)
    | _ => .stuck) = _
  cases (ρ[0]? : Option Slot) with
  | none => rfl
  | some s => cases s <;> rfl
@[simp] theorem ev_lam {f g : Nat} {ls : List Nat} : evalE md en (.lam f ls g) ρ = lamE (lockAll ls ρ) (en.lam f (en.thunk g (valsOf (lockAll ls ρ)))) := by
  show (match en.lam f (en.thunk g (valsOf (lockAll ls ρ))) with
    | .ok (.al _) _ => Res.stuck
    | .ok e _ => .ok e (lockAll ls ρ)
    | .exc _ _ => .stuck
    | .stuck => .stuck) = _
  cases en.lam f (en.thunk g (valsOf (lockAll ls ρ))) with
  | ok e o => cases e <;> rfl
  | _ => rfl
@[simp] theorem ev_isx {i n : Nat} : evalE md en (.isx i n) ρ = isxE n ρ ρ[i]? := by
  show (match ρ[i]? with | some (.exc x) => Res.ok (EV.val (.bool (x.cls == n))) ρ | _ => .stuck) = _
  cases ρ[i]? with
  | none => rfl
  | some s => cases s <;> rfl
@[simp] theorem ev_isb {i : Nat} : evalE md en (.isb i) ρ = isbE ρ ρ[i]? := by
  show (match ρ[i]? with | some (.exc _) => Res.ok (EV.val (.bool true)) ρ | _ => .stuck) = _
  cases ρ[i]? with
  | none => rfl
  | some s => cases s <;> rfl
@[simp] theorem ev_wish {nm : Str} {w n : Nat} : evalE md en (.wish nm w n a e) ρ = if en.deep = true then ((evalE md en a ρ).bind settle).bind fun dl ρ => ((evalE md en e ρ).bind settle).bind fun dk ρ => wishR nm n dl dk ρ (en.low w [.val dl, .val dk]) else .stuck := rfl
@[simp] theorem ev_lrg : evalE md en (.lrg a) ρ = ((evalE md en a ρ).bind settle).bind fun d ρ => lrgR ρ d := rfl
@[simp] theorem x_ext {i : Nat} : execS W md en (.ext i e) ρ = if isOwn ρ i = true then (evalE md en e ρ).bind fun x ρ => extR i ρ x ρ[i]? else .stuck := rfl
@[simp] theorem extR_fr {i : Nat} {l m : List PyData} : extR i ρ (.fr (.list m)) (some (.own (.list l))) = if l.length + m.length ≤ szl then .ok .nx (ρ.set i (.own (.list (l ++ m)))) else .stuck := rfl
theorem lrgR_nat {n : Nat} (h : n ≤ 16777216) : lrgR ρ (.int n) = .ok (.fr (.list ((List.range n).map fun (j : Nat) => PyData.int (j : Int)))) ρ := if_pos ⟨by omega, by omega⟩
@[simp] theorem ev_eqw {nm : Str} {f : Nat} {neg : Bool} : evalE md en (.eqw nm f neg a e) ρ = if en.deep = true then ((evalE md en a ρ).bind settle).bind fun x ρ => ((evalE md en e ρ).bind settle).bind fun y ρ => eqwR nm neg x y ρ (en.low f [.val x, .val y]) else .stuck := rfl
@[simp] theorem ev_isw {nm : Str} : evalE md en (.isw nm a) ρ = (evalE md en a ρ).bind fun x ρ => on (deref ρ (toR x)) fun x => on (iswD nm x) fun b => .ok (.val (.bool b)) ρ := rfl
@[simp] theorem ev_attr {nm f : Str} : evalE md en (.attr nm f a) ρ = (evalE md en a ρ).bind fun x ρ => on (deref ρ (toR x)) fun x => on (fieldOf nm f x) fun d => .ok (.val d) ρ := rfl
@[simp] theorem wishR_none {nm : Str} {n : Nat} {dl dk : PyData} {o : List Slot} : wishR nm n dl dk ρ (.ok (.val .none) o) = on (libOf dl) fun kvs => .ok (.val (insD nm dl dk kvs)) ρ := rfl
theorem wishR_some {nm : Str} {n : Nat} {dl dk d : PyData} {o : List Slot} (h : isNone d = false) : wishR nm n dl dk ρ (.ok (.val d) o) = .exc ⟨n, d⟩ ρ := if_neg (by rw [h]; exact Bool.false_ne_true)
@[simp] theorem wishR_exc {nm : Str} {n : Nat} {dl dk : PyData} {x : Exc} {o : List Slot} : wishR nm n dl dk ρ (.exc x o) = .exc x ρ := rfl
@[simp] theorem libOf_tuple {l : List PyData} : libOf (.tuple l) = layKD [] l := rfl
@[simp] theorem ev_fldx {i n : Nat} : evalE md en (.fldx i n) ρ = fldE n ρ ρ[i]? := by
  show (match ρ[i]? with | some (.exc x) => if x.cls = n then Res.ok (EV.val x.fld) ρ else .stuck | _ => .stuck) = _
  cases ρ[i]? with
  | none => rfl
  | some s => cases s <;> rfl
@[simp] theorem ei_range3 : evalI md en (.range3 a b c) ρ = ((evalE md en a ρ).bind settle).bind fun d ρ => ((evalE md en b ρ).bind settle).bind fun d' ρ => ((evalE md en c ρ).bind settle).bind fun d'' ρ => range3O ρ d d' d'' := by
  refine bind_ext fun d ρ => bind_ext fun d' ρ => bind_ext fun d'' ρ => ?_
  cases d <;> cases d' <;> cases d'' <;> rfl
@[simp] theorem ei_enum : evalI md en (.enum e) ρ = ((evalE md en e ρ).bind settle).bind fun d ρ => enumO ρ d := by
  refine bind_ext fun d ρ => ?_
  cases d <;> rfl
@[simp] theorem ei_zip : evalI md en (.zip a b) ρ = ((evalE md en a ρ).bind settle).bind fun d ρ => ((evalE md en b ρ).bind settle).bind fun d' ρ => zipO ρ d d' := by
  refine bind_ext fun d ρ => bind_ext fun d' ρ => ?_
  cases d <;> cases d' <;> rfl
end
@[simp] theorem max_int {i j : Int} : bltD .max [.int i, .int j] = some (.val (.int (if j > i then j else i))) := rfl
@[simp] theorem min_int {i j : Int} : bltD .min [.int i, .int j] = some (.val (.int (if j < i then j else i))) := rfl
@[simp] theorem min_list {l : List PyData} : bltD .min [.list l] = ((intsOf l).bind minI).map fun i => .val (.int i) := rfl
@[simp] theorem max_list {l : List PyData} : bltD .max [.list l] = ((intsOf l).bind maxI).map fun i => .val (.int i) := rfl
@[simp] theorem sum_list {l : List PyData} : bltD .sum [.list l] = (intsOf l).map fun ns => .val (.int ns.sum) := rfl
theorem intsOf_map {α : Type} (g : α → Int) : ∀ l : List α, intsOf (l.map fun x => .int (g x)) = some (l.map g)
  | [] => rfl
  | x :: l => by
    show (intsOf (l.map fun x => .int (g x))).map _ = _
    rw [intsOf_map g l]
    rfl
@[simp] theorem any_list {l : List PyData} : bltD .any [.list l] = (boolsOf l).map fun bs => .val (.bool (bs.any id)) := rfl
@[simp] theorem lst_list {l : List PyData} : bltD .list [.list l] = some (.fr (.list l)) := rfl
@[simp] theorem lst_tuple {l : List PyData} : bltD .list [.tuple l] = some (.fr (.list l)) := rfl
@[simp] theorem int_bool {b : Bool} : bltD .int [.bool b] = some (.val (.int (if b then 1 else 0))) := rfl
theorem range3_nat {n m : Nat} (hm : 0 < m) (hn : n ≤ 1000000) (hm2 : m < 1000) : rangeD3 0 (n : Int) (m : Int) = some ((List.range ((n + m - 1) / m)).map fun (j : Nat) => PyData.int ((j : Int) * (m : Int))) := by
  have e : Builtin.Range.rangeSize 0 (n : Int) (m : Int) = (((n + m - 1) / m : Nat) : Int) := by
    unfold Builtin.Range.rangeSize
    rw [if_pos (by omega)]
    by_cases c : n = 0
    · subst c
      rw [if_neg (by omega), Nat.div_eq_of_lt (by omega)]
      rfl
    · rw [if_pos (by omega)]
      have z : n + m - 1 = (n - 1) + m := by omega
      rw [z, Nat.add_div_right _ hm]
      have y : (n : Int) - 0 - 1 = ((n - 1 : Nat) : Int) := by omega
      rw [y, ← Int.natCast_ediv]
      rfl
  have s : Builtin.Range.small 0 (n : Int) (m : Int) = true := by
    have b : (n + m - 1) / m ≤ 1001000 := Nat.le_trans (Nat.div_le_self _ _) (by omega)
    have f : ∀ x : Int, -(2 ^ 63) ≤ x → x ≤ 2 ^ 63 - 1 → Builtin.Range.rangeFitsLong x = true := fun x h1 h2 => by
      unfold Builtin.Range.rangeFitsLong
      simp
      omega
    unfold Builtin.Range.small
    rw [e]
    generalize (n + m - 1) / m = q at b
    rw [f 0 (by omega) (by omega), f n (by omega) (by omega), f m (by omega) (by omega), f q (by omega) (by omega), if_pos (by omega), f _ (by omega) (by omega)]
    simp
  unfold rangeD3
  rw [if_pos ⟨⟨by omega, by omega, s⟩, by rw [e]; exact Int.natCast_nonneg _⟩, e, Int.toNat_natCast]
  simp
/-- a comprehension whose test is told -/
theorem comp_filter {as : PyData → Env → Res Bool} {elt : Env → Res PyData} {wp : Env → Env} {p : PyData → Bool} {f : PyData → PyData} {ρ : Env} : ∀ {ds acc : List PyData}, acc.length + ds.length ≤ szl →
    (∀ d ∈ ds, ∃ ρ1, as d ρ = .ok (p d) ρ1 ∧ (p d = false → wp ρ1 = ρ) ∧ (p d = true → ∃ ρ2, elt ρ1 = .ok (f d) ρ2 ∧ wp ρ2 = ρ)) → compL as elt wp ds acc ρ = .ok (acc ++ (ds.filter p).map f) ρ
  | [], acc, _, _ => by
    show Res.ok acc ρ = _
    rw [List.filter_nil, List.map_nil, List.append_nil]
  | d :: ds, acc, hl, h => by
    obtain ⟨ρ1, e1, n1, y1⟩ := h d (List.mem_cons_self ..)
    have hl' : acc.length + (ds.length + 1) ≤ szl := hl
    have h' : ∀ d ∈ ds, _ := fun d hd => h d (List.mem_cons_of_mem _ hd)
    show (as d ρ).bind _ = _
    rw [e1]
    cases c : p d with
    | false =>
      show compL as elt wp ds acc (wp ρ1) = _
      rw [n1 c, comp_filter (by omega) h', List.filter_cons, c]
      rfl
    | true =>
      obtain ⟨ρ2, e2, e3⟩ := y1 c
      show (elt ρ1).bind _ = _
      rw [e2]
      show (if acc.length < szl then compL as elt wp ds (acc ++ [f d]) (wp ρ2) else .stuck) = _
      rw [if_pos (by omega), e3, comp_filter (by rw [List.length_append, List.length_singleton]; omega) h', List.filter_cons, c]
      rw [List.append_assoc]
      rfl
theorem lc_filter {md : List Bool} {en : En} {ws : List Nat} {tg : Tg} {cs : List ME} {e : ME} {ds : List PyData} {ρ ρ0 ρ' : Env} (p : PyData → Bool) (f : PyData → PyData) (hw : ws.all (free md) = true) (hl : ds.length ≤ szl) (h0 : wipeS ws ρ = ρ0) (hr : restore ws ρ ρ0 = ρ')
    (h : ∀ d ∈ ds, ∃ ρa ρ1, assignT md tg d ρ0 = some ρa ∧ evalCs md en cs ρa = .ok (p d) ρ1 ∧ (p d = false → wipeS ws ρ1 = ρ0) ∧ (p d = true → ∃ ρ2, (evalE md en e ρ1).bind settle = .ok (f d) ρ2 ∧ wipeS ws ρ2 = ρ0)) : lcE md en ws tg cs e ds ρ = .ok (.fr (.list ((ds.filter p).map f))) ρ' := by
  subst h0 hr
  unfold lcE
  rw [if_pos hw, comp_filter (p := p) (f := f) (ρ := wipeS ws ρ) (by simpa using hl) fun d hd => ?_]
  · rfl
  · obtain ⟨ρa, ρ1, e0, e1, e2, e3⟩ := h d hd
    refine ⟨ρ1, ?_, e2, e3⟩
    rw [e0]
    exact e1
/-- a comprehension with tests, of what is said behind each turn -/
theorem comp_runT {as : PyData → Env → Res Bool} {elt : Env → Res PyData} {wp : Env → Env} (I : List PyData → Env → Prop) : ∀ {ds acc : List PyData} {ρ : Env}, acc.length + ds.length ≤ szl → I acc ρ →
    (∀ d ∈ ds, ∀ acc ρ, I acc ρ → ∃ b ρ1, as d ρ = .ok b ρ1 ∧ (b = false → I acc (wp ρ1)) ∧ (b = true → ∃ y ρ2, elt ρ1 = .ok y ρ2 ∧ I (acc ++ [y]) (wp ρ2))) → ∃ l ρ', compL as elt wp ds acc ρ = .ok l ρ' ∧ I l ρ' ∧ l.length ≤ acc.length + ds.length
  | [], acc, ρ, _, h0, _ => ⟨acc, ρ, rfl, h0, Nat.le_refl _⟩
  | d :: ds, acc, ρ, hl, h0, h => by
    obtain ⟨b, ρ1, e1, n1, y1⟩ := h d (List.mem_cons_self ..) acc ρ h0
    have hl' : acc.length + (ds.length + 1) ≤ szl := hl
    have h' := fun d hd => h d (List.mem_cons_of_mem _ hd)
    cases b with
    | false =>
      obtain ⟨l, ρ', e3, i3, n3⟩ := comp_runT I (ds := ds) (acc := acc) (ρ := wp ρ1) (by omega) (n1 rfl) h'
      refine ⟨l, ρ', ?_, i3, by rw [List.length_cons]; omega⟩
      show (as d ρ).bind _ = _
      rw [e1]
      exact e3
    | true =>
      obtain ⟨y, ρ2, e2, i2⟩ := y1 rfl
      obtain ⟨l, ρ', e3, i3, n3⟩ := comp_runT I (ds := ds) (acc := acc ++ [y]) (ρ := wp ρ2) (by rw [List.length_append, List.length_singleton]; omega) i2 h'
      rw [List.length_append, List.length_singleton] at n3
      refine ⟨l, ρ', ?_, i3, by rw [List.length_cons]; omega⟩
      show (as d ρ).bind _ = _
      rw [e1]
      show (elt ρ1).bind _ = _
      rw [e2]
      show (if acc.length < szl then compL as elt wp ds (acc ++ [y]) (wp ρ2) else .stuck) = _
      rw [if_pos (by omega), e3]
theorem lc_runT {md : List Bool} {en : En} {ws : List Nat} {tg : Tg} {cs : List ME} {e : ME} {ds : List PyData} {ρ : Env} (I : List PyData → Env → Prop) (hw : ws.all (free md) = true) (hl : ds.length ≤ szl) (h0 : I [] (wipeS ws ρ))
    (h : ∀ d ∈ ds, ∀ acc ρ, I acc ρ → ∃ ρa, assignT md tg d ρ = some ρa ∧ ∃ b ρ1, evalCs md en cs ρa = .ok b ρ1 ∧ (b = false → I acc (wipeS ws ρ1)) ∧ (b = true → ∃ y ρ2, (evalE md en e ρ1).bind settle = .ok y ρ2 ∧ I (acc ++ [y]) (wipeS ws ρ2))) :
    ∃ l ρ', lcE md en ws tg cs e ds ρ = .ok (.fr (.list l)) (restore ws ρ ρ') ∧ I l ρ' ∧ l.length ≤ ds.length := by
  obtain ⟨l, ρ', e1, i1, n1⟩ := comp_runT (as := fun d ρ => on (assignT md tg d ρ) fun ρ => evalCs md en cs ρ) (elt := fun ρ => (evalE md en e ρ).bind settle) (wp := wipeS ws) I (ds := ds) (acc := []) (by simpa using hl) h0 fun d hd acc ρ i => by
    obtain ⟨ρa, e0, b, ρ1, e1, n1, y1⟩ := h d hd acc ρ i
    refine ⟨b, ρ1, ?_, n1, y1⟩
    rw [e0]
    exact e1
  refine ⟨l, ρ', ?_, i1, by simpa using n1⟩
  unfold lcE
  rw [if_pos hw, e1]
  rfl
theorem boolsOf_true : ∀ {l : List PyData}, (∀ x ∈ l, x = .bool true) → ∃ bs, boolsOf l = some bs ∧ bs.all id = true
  | [], _ => ⟨[], rfl, rfl⟩
  | x :: l, h => by
    obtain ⟨bs, e, a⟩ := boolsOf_true fun y hy => h y (List.mem_cons_of_mem _ hy)
    have hx := h x (List.mem_cons_self ..)
    subst hx
    refine ⟨true :: bs, ?_, a⟩
    show (boolsOf l).map _ = _
    rw [e]
    rfl
end Dn
/-! Den23: instances of three fields: read, made -/
namespace Dn
open PySem PySem.Spec PyProof.Rows L2
section
variable {md : Rm} {en : En} {Wx : L2.WX} {X : Cx} {e : Expr} {m : ME} {pos : Pos}
theorem RepFs.find {K : PySem.W.Frag} {H : Hp} {f : Str} {d : PyData} : ∀ {fs : List (Str × V)} {ds : List (PyData × PyData)}, RepFs K H fs ds → findK (.inr f) ds = some d → ∃ v, fs.lookup f = some v ∧ Rep K H v d
  | _, _, .nil, h => nomatch h
  | _, _, .cons (f := g) (v := v) (r := r) (d := d0) (rs := rs) h t, q => by
    have q : (if isKey (.inr f) (.str g) = true then some d0 else findK (.inr f) rs) = some d := q
    by_cases z : g = f
    · subst z
      have e : isKey (.inr g) (.str g) = true := by show decide _ = true; simp
      rw [if_pos e] at q
      cases q
      exact ⟨v, by rw [List.lookup_cons, show (g == g) = true from beq_self_eq_true g], h⟩
    · have e : ¬ isKey (.inr f) (.str g) = true := by
        show ¬ decide _ = true
        simp only [decide_eq_true_eq, Sum.inr.injEq]
        exact z
      rw [if_neg e] at q
      obtain ⟨v', h1, h2⟩ := RepFs.find t q
      exact ⟨v', by rw [List.lookup_cons, show (f == g) = false from beq_eq_false_iff_ne.mpr fun y => z y.symm]; exact h1, h2⟩
theorem fieldOf_inv {nm f : Str} {x d : PyData} (h : fieldOf nm f x = some d) : ∃ kvs, x = .dict ((.none, .str nm) :: kvs) ∧ findK (.inr f) kvs = some d := by
  unfold fieldOf at h
  split at h
  · split at h
    case isTrue z => subst z; exact ⟨_, rfl, h⟩
    case isFalse => cases h
  · cases h
/-- wish.f -/
theorem pd_attr {nm f : Str} {C : Addr} (hI : PySem.W.nsIn X.K mainGlobals nm = some (some (.ref C))) (hN : NoAttr X.K C f) (h : PD md en Wx X e m) (hb : attributeBase e f X.env (eval e X.env) = eval e X.env := by rfl) : PD md en Wx X (.Attribute e f pos) (.attr nm f m) := by
  refine PE.imp (pe_fld (PE.toR h) hb) fun σ H Q ⟨G, ρ, R, w⟩ => ⟨G, ρ, R, w.bind.mono fun x ρ1 w v H1 fr1 sb1 R1 rep1 => ?_⟩
  obtain ⟨d, e1, w⟩ := Want.on w
  obtain ⟨dd, e2, w'⟩ := Want.on w
  clear w
  obtain ⟨kvs, rfl, e3⟩ := fieldOf_inv e2
  obtain ⟨a, rfl, ⟨ps, _, r⟩ | ⟨C', dx, nm', fs, ds, e4, h1, c, r⟩⟩ := rep1.rd R1 e1
  · have z := r.no
    cases z
  · cases e4
    have z := c.nm
    rw [hI] at z
    cases z
    obtain ⟨v, h2, h3⟩ := r.find e3
    exact ⟨a, C, dx, fs, v, rfl, h1, c.cl, hN, h2, (RNew.of R1 (Aft.back fr1 sb1 (show Aft G X.K md σ ρ H Q (.val dd) ρ1 from w'))).here h3⟩
end
theorem kit_ref {K : PySem.W.Frag} {C : Addr} {t : String} (h : PySem.W.subIn K (.ref C) (.type t) = some false) (m : PySem.W.kitMeta t = true) : PySem.W.kitOne K (.ref C) (.type t) = some false := by
  show (if (Value.ref C == Value.type t) = true then some true else PySem.W.kitCls K (.ref C) (.type t)) = some false
  rw [if_neg (by intro z; have := beq_iff_eq.mp z; cases this)]
  show (if PySem.W.kitMeta t = true then PySem.W.subIn K (.ref C) (.type t) else none) = some false
  rw [if_pos m]
  exact h
/-! ### an instance is filled -/
inductive FillBody : List Stmt → Prop
  | mk {p1 p2 p3 p4 p5 p6 p7 p8 p9 p10 p11 p12 p13 p14 : Pos} : FillBody [.Assign [.Attribute (.Name "self" p1) "library" p2] (.Name "library" p3) p4, .Assign [.Attribute (.Name "self" p5) "kind" p6] (.Name "kind" p7) p8,
      .Assign [.Attribute (.Name "self" p9) "kinds" p10] (.Call (.Name "dict" p11) [.Name "library" p12] [] p13) p14]
/-- what is known of the class -/
structure WCls (K : PySem.W.Frag) (C : Addr) (nm : Str) : Prop extends InsC K C nm where
  nl : NoAttr K C "library"
  nk : NoAttr K C "kind"
  nd : NoAttr K C "kinds"
theorem Ext.upd_new {H0 H : Hp} {a : Addr} {o : HO} (e : Ext H0 H) (h : H0 a = none) : Ext H0 (upd H a o) :=
  ⟨fun b xs q => by rw [upd_ne (ne_of_none q h)]; exact e.tup b xs q, fun b u w q => by rw [upd_ne (ne_of_none q h)]; exact e.frz b u w q, fun b u q => by rw [upd_ne (ne_of_none q h)]; exact e.xd b u q, fun b C x u q => by rw [upd_ne (ne_of_none q h)]; exact e.ins b C x u q⟩
/-- all but a is kept, tables may grow -/
def KpB (a : Addr) (H H' : Hp) : Prop := (∀ b u, b ≠ a → H b = some u → (∀ ps, u ≠ .tbl ps) → H' b = some u) ∧ ∀ b, H' b = none → H b = none
def fldsOf (l kd v : V) : List (Str × V) := [("library", l), ("kind", kd), ("kinds", v)]
def spFill (K : PySem.W.Frag) (C : Addr) : Sp := fun vs H Q E => ∃ a dx l kd its kvs, vs = [.ref a, l, kd] ∧ H a = some (.ins C dx []) ∧ (∃ H0, H0 a = none ∧ Ext H0 H ∧ Rep K H0 l (.tuple its)) ∧ layKD [] its = some kvs ∧
  ∀ H' v, (∀ b u, b ≠ a → H b = some u → H' b = some u) → (∀ b, H' b = none → H b = none) → H' a = some (.ins C dx (fldsOf l kd v)) → Rep K H' v (.dict kvs) → Q .non H'
theorem fl2 {f g : Str} {u v : V} : (putF g u (putF f v [])).length < 1000 := by
  have a := length_putF g u (putF f v [])
  have b : (putF f v []).length = 1 := rfl
  omega
theorem flds_put {l kd v : V} : putF "kinds" v (putF "kind" kd (putF "library" l [])) = fldsOf l kd v := by
  have h1 : ("library" : Str) ≠ "kind" := by decide
  have h2 : ("library" : Str) ≠ "kinds" := by decide
  have h3 : ("kind" : Str) ≠ "kinds" := by decide
  simp [putF, fldsOf, h1, h2, h3]
section
variable {P : Program} {w : World} {K : PySem.W.Frag} {mg : Str → Option Value} {base : Heap}
theorem fill_ok {x qual nm : Str} {st : Stmt} {f C : Addr} {g : FuncData} {k : Nat} (F : Fun K x qual st f g) (S : FnScope ["self", "library", "kind"] ["self", "library", "kind"] (defScope st)) (B : FillBody (defBody st)) (Wc : WCls K C nm)
    (hg : (defScope st).names.lookup ("dict" : Str) = some .globalImplicit) (hm : mg "dict" = none) (hv : bootBuiltins "dict" = some (.type "dict")) : FnG P w K mg base (k + 1) f g ["self", "library", "kind"] (spFill K C) := by
  refine fun_den F S (fun vs H Q E ⟨_, _, _, _, _, _, e, _⟩ => by rw [e]; rfl) fun cdv A outer s H vs Q E room gd hcd want => ?_
  obtain ⟨a, dx, l, kd, its, kvs, rfl, ha, ⟨H0, h0, ex0, rl⟩, hl, q⟩ := want
  have vis : ∀ y, y ∈ (["self", "library", "kind"] : List Str) → Vis (defScope st) y := fun y hy => (S.par y hy).imp id .inl
  generalize hX : bodyCx P w K mg base ["self", "library", "kind"] qual (defScope st) f cdv A outer s H E = X
  have N0 : X.N[0]? = some ("self" : Str) := by subst hX; rfl
  have N1 : X.N[1]? = some ("library" : Str) := by subst hX; rfl
  have N2 : X.N[2]? = some ("kind" : Str) := by subst hX; rfl
  have V0 : Vis X.env.scope "self" := by subst hX; exact vis _ (by simp)
  have V1 : Vis X.env.scope "library" := by subst hX; exact vis _ (by simp)
  have V2 : Vis X.env.scope "kind" := by subst hX; exact vis _ (by simp)
  have hK : X.K = K := by subst hX; rfl
  have hgl : Gl X "dict" := by subst hX; exact hg
  have hmg : X.mg "dict" = none := by subst hX; exact hm
  have hcalm : X.calm = true := by subst hX; rfl
  cases hB : defBody st with
  | nil => rw [hB] at B; cases B
  | cons b1 bs =>
  rw [hB] at B
  cases B with
  | mk =>
    have ed : ∀ q1 q2 q3 : Pos, PE X (.Call (.Name "dict" q1) [.Name "library" q2] [] q3) (fun σ H Q => ∃ v a ps kvs, σ[1]? = some (some v) ∧ v = .ref a ∧ SqT X.K H a (ps.map V.ref) ∧ PlT X.K H a ∧ Paired (fun p kv => SqT X.K H p [kV kv.1, kv.2]) ps kvs ∧ ∀ p o, H p = none → Q (.ref p) (upd H p (.frz o (.dK (mergeK [] kvs))))) := fun q1 q2 q3 => by
      refine PE.lock (pe_callTy (call_dictN hcalm) hgl hmg hv (pa_cons (pe_var N1 V1) pa_nil (by rfl)) (by decide) (by decide) (by rfl) (by rfl)) fun σ H Q ⟨v, a, ps, kvs, e1, e2, h1, h2, h3, q⟩ => ?_
      refine ⟨v, e1, a, ps, kvs, by rw [e2], h1, h2, h3, fun p hp => .inr ⟨p, _, upd_same, .inr ⟨_, rfl⟩, fun o => ?_⟩⟩
      rw [upd_upd]
      exact q p o hp
    refine ⟨_, pss_cons (ps_fld (f := "library") (pe_var N0 V0) (pe_var N1 V1) (by rfl)) (pss_cons (ps_fld (f := "kind") (pe_var N0 V0) (pe_var N2 V2) (by rfl)) (pss_cons (ps_fld (f := "kinds") (pe_var N0 V0) (ed _ _ _) (by rfl)) pss_nil)), ?_⟩
    rw [hK]
    refine ⟨l, rfl, .ref a, rfl, a, C, dx, [], rfl, ha, Wc.cl, Wc.nl, by decide, ?_⟩
    refine ⟨kd, rfl, .ref a, rfl, a, C, dx, _, rfl, upd_same, Wc.cl, Wc.nk, (show 1 < 1000 by decide), ?_⟩
    have ex2 : Ext H0 (upd (upd H a (.ins C dx (putF "library" l []))) a (.ins C dx (putF "kind" kd (putF "library" l [])))) := (ex0.upd_new h0).upd_new h0
    obtain ⟨la, xs, rfl, hT0, r1⟩ := rl.rd
    obtain ⟨as, more, rfl, pr, rr⟩ := lay_reps r1 .nil hl
    have hT := hT0.mono ex2
    have lib : isLib its = true := by
      show (layKD [] its).isSome = true
      rw [hl]
      rfl
    refine ⟨_, la, as, more, rfl, rfl, hT.1, hT.2 lib, Paired.mapP pr fun _ _ z => ex2.sqt z, fun p o hp => ?_⟩
    have pa : p ≠ a := fun z => by
      rw [z, upd_same] at hp
      cases hp
    have Hp0 : H p = none := by
      rw [upd_ne pa, upd_ne pa] at hp
      exact hp
    refine ⟨.ref a, rfl, a, C, dx, _, rfl, by rw [upd_ne (Ne.symm pa), upd_same], Wc.cl, Wc.nd, fl2, ?_⟩
    show Q .non _
    refine q _ (.ref p) (fun b u hb e => ?_) (fun b e => ?_) ?_ ?_
    · have hbp : b ≠ p := fun z => by rw [z, Hp0] at e; cases e
      rw [upd_ne hb, upd_ne hbp, upd_ne hb, upd_ne hb]
      exact e
    · by_cases hb : b = a
      · rw [hb, upd_same] at e
        cases e
      · rw [upd_ne hb] at e
        by_cases hbp : b = p
        · rw [hbp]; exact Hp0
        · rw [upd_ne hbp, upd_ne hb, upd_ne hb] at e
          exact e
    · rw [upd_same, ← flds_put]
    · exact .dct (o := o) (by rw [upd_ne pa, upd_same]) (rr.mono ((ex2.trans (Ex.new hp).ext).upd_new h0))
end
/-! ### .. made -/
theorem Ext.off {H0 H H' : Hp} {a : Addr} (e : Ext H0 H) (h : H0 a = none) (k : ∀ b u, b ≠ a → H b = some u → H' b = some u) : Ext H0 H' :=
  ⟨fun b xs q => k b _ (ne_of_none q h) (e.tup b xs q), fun b u w q => k b _ (ne_of_none q h) (e.frz b u w q), fun b u q => k b _ (ne_of_none q h) (e.xd b u q), fun b C x u q => k b _ (ne_of_none q h) (e.ins b C x u q)⟩
/-- what __init__ promises, from what is said of the parts -/
def spInit (K : PySem.W.Frag) (C : Addr) (cl : List (Addr × Option Str)) (T : List (Addr × Str)) (b : Nat) (f : PyData → PyData → CRes) : Sp := fun vs H Q E => ∃ a dx l kd dl dk H0, vs = [.ref a, l, kd] ∧ H a = some (.ins C dx []) ∧ H0 a = none ∧ Ext H0 H ∧ Rep K H0 l dl ∧ Rep K H0 kd dk ∧ LamX.Tabs T H ∧
  match f dl dk with
  | .ok (.val d) _ => if isNone d = true then ∃ its kvs, dl = .tuple its ∧ layKD [] its = some kvs ∧ ∀ H' v, KpB a H H' → LamX.Tabs T H' → H' a = some (.ins C dx (fldsOf l kd v)) → Rep K H' l dl → Rep K H' kd dk → Rep K H' v (.dict kvs) → Q .non H'
      else ∀ cls dd H', KpB a H H' → LamX.Tabs T H' → RepX K cl H' ⟨b, d⟩ cls dd → E cls dd H'
  | .exc x _ => ∀ cls dd H', KpB a H H' → LamX.Tabs T H' → RepX K cl H' x cls dd → E cls dd H'
  | _ => False
section
variable {X : Cx} {k : Nat} {f : Addr} {fd : FuncData} {ps : List Str} {sp : Sp} {C : Addr} {m : Str} {o e : Expr} {es : List Expr} {ta : TE} {t : TA} {pos apos : Pos} {Wx : L2.WX}
/-- o.m(e, ..) -/
theorem pe_methG {pl : Sem Bool} (tk : L2.Takes X Wx) (he : PE X o ta) (c : Cls X.K C) (hm : Meth X.K C m f) (F : FnG X.prog X.w X.K X.mg X.base k f fd ps sp) (hr : Room k X.A) (hgd : X.A.guards = some []) (hb : Binds X.K fd ps []) (ha : PA X (e :: es) t)
    (hst : starEach (e :: es) X.env = (false, eval e X.env) :: starEach es X.env := by rfl) (hpl : (backTo pos (starEach es X.env)).any (·.1) = false := by rfl)
    (ht : eval (.Call (.Attribute o m apos) (e :: es) [] pos) X.env = (do
      let ov ← eval o X.env
      standAt apos.atName
      let (f, first) ← holding [ov] (getMethod ov m pl)
      callWith pos f first (backTo pos (starEach (e :: es) X.env)) (backToKw pos (keywordEach [] X.env))) := by rfl) :
    PE X (.Call (.Attribute o m apos) (e :: es) [] pos) (fun σ H Q => ta σ H fun x H1 => ∃ a dx fs, x = .ref a ∧ H1 a = some (.ins C dx fs) ∧ fs.lookup m = none ∧ t σ H1 fun vs H2 => sp (x :: vs) H2 Q (WE Wx σ)) := by
  refine ⟨fun pins s σ H Q I h => ?_⟩
  refine PySem.W.methodCall_KW (pl := pl) (thn (he.run pins s σ H _ I h) fun u s1 ⟨x, H1, I1, rx, a, dx, fs, ex, ea, l, q⟩ => ?_) ht
  subst ex
  obtain rfl : u = Value.ref a := rx
  refine getmeth_ok I1 ea c hm l ?_
  refine PySem.W.callWith_K (first := [.ref a]) (h₀ := X.base) I.ok.mod.kin hm.kp (thn (ha.run pos pins s1 σ H1 _ I1 q) fun us s2 ⟨vs, H2, I2, r, q2⟩ => ⟨I2.kIn, ?_⟩) hst hpl
  exact run_fnG (us := .ref a :: us) (vs := .ref a :: vs) tk F hr hgd hb I2 (.cons rfl r) q2
end
section
variable {P : Program} {w : World} {K : PySem.W.Frag} {mg : Str → Option Value} {base : Heap}
abbrev mInit (cl : List (Addr × Option Str)) (T : List (Addr × Str)) : Rm := ⟨[true, true, true], cl, T, none, .non, none, none⟩
theorem init_ok {x qual nm : Str} {st s1 s2 : Stmt} {fI fF C : Addr} {g gF : FuncData} {k W wp b : Nat} {cl : List (Addr × Option Str)} {T : List (Addr × Str)} {Tb : List FD} {p1 p2 p3 p4 p5 p6 : Pos}
    (F : Fun K x qual st fI g) (S : FnScope ["self", "library", "kind", "part"] ["self", "library", "kind"] (defScope st))
    (B : defBody st = [s1, s2, .Expr (.Call (.Attribute (.Name "self" p1) "fill" p2) [.Name "library" p3, .Name "kind" p4] [] p5) p6]) (Wc : WCls K C nm) (hM : Meth K C "fill" fF)
    (FF : ∀ k, FnG P w K mg base (k + 1) fF gF ["self", "library", "kind"] (spFill K C)) (hbF : Binds K gF ["self", "library", "kind"] []) (hmd : modesOf Tb wp = [false, false]) {pl : PySem.Env → Sem Bool}
    (ht : ∀ env : PySem.Env, eval (.Call (.Attribute (.Name "self" p1) "fill" p2) [.Name "library" p3, .Name "kind" p4] [] p5) env = (do
      let ov ← eval (.Name "self" p1) env
      standAt p2.atName
      let (f, first) ← holding [ov] (getMethod ov "fill" (pl env))
      callWith p5 f first (backTo p5 (starEach [.Name "library" p3, .Name "kind" p4] env)) (backToKw p5 (keywordEach [] env))))
    (hb : ∀ (cdv : Value) (A : Around) (outer : List PySem.Env) (s : Shared) (H : Hp) (E : XK), Room k (A.deeper (envOfC qual (defScope st) s.heap.objs.size fI cdv)) → A.guards = some [] →
      L2.Takes (bodyCx P w K mg base ["self", "library", "kind", "part"] qual (defScope st) fI cdv A outer s H E) (fun cls d _ H => E cls d H) →
      SD W (mInit cl T) (enK W Tb k .stuck) (fun cls d _ H => E cls d H) (bodyCx P w K mg base ["self", "library", "kind", "part"] qual (defScope st) fI cdv A outer s H E) s1 (.set 3 (.call wp [.v 1, .v 2])) ∧
      SD W (mInit cl T) (enK W Tb k .stuck) (fun cls d _ H => E cls d H) (bodyCx P w K mg base ["self", "library", "kind", "part"] qual (defScope st) fI cdv A outer s H E) s2 (.ite (.cmp .isnot (.v 3) (.c .none)) [.raise1 b (.v 3)] [])) :
    FnG P w K mg base (k + 1) fI g ["self", "library", "kind"] (spInit K C cl T b fun dl dk => callF W Tb k wp [.val dl, .val dk]) := by
  refine fun_den F S (fun vs H Q E ⟨_, _, _, _, _, _, _, e, _⟩ => by rw [e]; rfl) fun cdv A outer s H vs Q E room gd hcd want => ?_
  obtain ⟨a, dx, l, kd, dl, dk, H0, rfl, ha, h0, ex0, rl, rk, tb, want⟩ := want
  have tk : L2.Takes (bodyCx P w K mg base ["self", "library", "kind", "part"] qual (defScope st) fI cdv A outer s H E) (fun cls d _ H => E cls d H) := L2.takes_of rfl rfl rfl rfl
  obtain ⟨d1, d2⟩ := hb cdv A outer s H E room gd tk
  obtain ⟨k, rfl⟩ : ∃ j, k = j + 1 := by
    cases k with
    | succ j => exact ⟨j, rfl⟩
    | zero => exact False.elim want
  have vis : ∀ y, y ∈ (["self", "library", "kind"] : List Str) → Vis (defScope st) y := fun y hy => (S.par y hy).imp id .inl
  have d3 := ps_expr (pos := p6) (pe_methG (X := bodyCx P w K mg base ["self", "library", "kind", "part"] qual (defScope st) fI cdv A outer s H E) (m := "fill") (apos := p2) (pos := p5) tk (pe_var (i := 0) (x := "self") (pos := p1) rfl (vis _ (by simp))) Wc.cl hM (FF k) room gd hbF
    (pa_cons (pe_var (i := 1) (x := "library") (pos := p3) rfl (vis _ (by simp))) (pa_cons (pe_var (i := 2) (x := "kind") (pos := p4) rfl (vis _ (by simp))) pa_nil (by rfl)) (by rfl)) (by rfl) (by rfl) (ht _)) (by rfl)
  rw [B]
  refine ⟨_, pss_cons d1 (pss_cons d2 (pss_cons d3 pss_nil)), ?_⟩
  let G : Gh := { A := fun _ => False, H0 := H, fx := fun i => [V.ref a, l, kd][i]? }
  let σ0 : L2.St := L2.start ["self", "library", "kind", "part"] [V.ref a, l, kd]
  have e0 : σ0 = [some (.ref a), some l, some kd, none] := rfl
  have R0 : RS G K (mInit cl T) σ0 [.un, .val dl, .val dk, .un] H := by
    refine ⟨rfl, fun i d h => ?_, fun i d h => ?_, fun i j b d e h => ?_, fun i b d h => ?_, fun b h => h, fun b u h _ _ => h, fun i v h h2 => ?_, fun i s h z => ?_, ⟨tb, fun c q e => nomatch e⟩, fun Ha q => ?_⟩
    · match i, h with
      | 1, h => cases h; exact ⟨l, rfl, rl.mono ex0⟩
      | 2, h => cases h; exact ⟨kd, rfl, rk.mono ex0⟩
      | i + 4, h => simp at h
    · match i, h with
      | i + 4, h => simp at h
    · match i, h with
      | i + 4, h => simp at h
    · match i, h with
      | i + 4, h => simp at h
    · match i, h2 with
      | 0, h2 => cases h2; rfl
      | 1, h2 => cases h2; rfl
      | 2, h2 => cases h2; rfl
      | i + 3, h2 => simp [G] at h2
    · match i, h with
      | 0, h => cases h; cases z
      | 1, h => cases h; cases z
      | 2, h => cases h; cases z
      | 3, h => cases h; cases z
      | i + 4, h => simp at h
    · rcases q with q | q
      · exact False.elim q
      · cases q
  have pb : ∀ (outs : List Slot) (ρ : Dn.Env), putBack [.dat dl, .dat dk] outs ρ = ρ := fun outs ρ => by
    cases outs with
    | nil => rfl
    | cons o1 outs => cases outs <;> rfl
  -- all but a is kept
  have kp : ∀ {σ ρ H'}, RS G K (mInit cl T) σ ρ H' → KpB a H H' ∧ LamX.Tabs T H' := fun R => ⟨⟨fun b u _ e t => R.keep b u e (fun z => z) t, fun b e => R.thr b e⟩, R.gl.1⟩
  dsimp only at want
  generalize hr : callF W Tb (k + 1) wp [.val dl, .val dk] = r at want
  cases r with
  | stuck => exact False.elim want
  | exc x outs =>
    refine ⟨G, _, R0, ?_⟩
    have ev : execS W (mInit cl T).l (enK W Tb (k + 1) .stuck) (.set 3 (.call wp [.v 1, .v 2])) [.un, .val dl, .val dk, .un] = .exc x [.un, .val dl, .val dk, .un] := by
      simp -implicitDefEqProofs [hmd, hr, pb]
    show Want _ (execS W (mInit cl T).l (enK W Tb (k + 1) .stuck) (.set 3 (.call wp [.v 1, .v 2])) [.un, .val dl, .val dk, .un]) _
    rw [ev]
    exact fun σ cls d' H' R rx => want cls d' H' (kp R).1 (kp R).2 rx
  | ok e outs =>
    cases e with
    | al i => exact False.elim want
    | fr d => exact False.elim want
    | val d =>
      refine ⟨G, _, R0, ?_⟩
      have ev : execS W (mInit cl T).l (enK W Tb (k + 1) .stuck) (.set 3 (.call wp [.v 1, .v 2])) [.un, .val dl, .val dk, .un] = .ok .nx [.un, .val dl, .val dk, .val d] := by
        simp -implicitDefEqProofs [hmd, hr, pb]
      show Want _ (execS W (mInit cl T).l (enK W Tb (k + 1) .stuck) (.set 3 (.call wp [.v 1, .v 2])) [.un, .val dl, .val dk, .un]) _
      rw [ev]
      intro σ1 H1 R1 x1
      refine ⟨G, _, R1, ?_⟩
      have want : (if isNone d = true then _ else _) := want
      by_cases z : isNone d = true
      · rw [if_pos z] at want
        obtain ⟨its, kvs, rfl, hl, want⟩ := want
        have ev2 : execS W (mInit cl T).l (enK W Tb (k + 1) .stuck) (.ite (.cmp .isnot (.v 3) (.c .none)) [.raise1 b (.v 3)] []) [.un, .val (.tuple its), .val dk, .val d] = .ok .nx [.un, .val (.tuple its), .val dk, .val d] := by
          simp -implicitDefEqProofs [z]
        show Want _ (execS W (mInit cl T).l (enK W Tb (k + 1) .stuck) (.ite (.cmp .isnot (.v 3) (.c .none)) [.raise1 b (.v 3)] []) [.un, .val (.tuple its), .val dk, .val d]) _
        rw [ev2]
        intro σ2 H2 R2 x2
        have f0 : σ2[0]? = some (some (.ref a)) := R2.fix 0 _ rfl rfl
        have f1 : σ2[1]? = some (some l) := R2.fix 1 _ rfl rfl
        have f2 : σ2[2]? = some (some kd) := R2.fix 2 _ rfl rfl
        have ha2 : H2 a = some (.ins C dx []) := R2.keep a _ ha (fun z => z) fun _ z => nomatch z
        have ex2 : Ext H0 H2 := (ex0.trans x1).trans x2
        refine ⟨.ref a, f0, a, dx, [], rfl, ha2, rfl, l, f1, kd, f2, ?_⟩
        refine ⟨a, dx, l, kd, its, kvs, rfl, ha2, ⟨H0, h0, ex2, rl⟩, hl, fun H' v k1 k2 k3 k4 => ?_⟩
        have ex3 : Ext H0 H' := ex2.off h0 k1
        refine want H' v ⟨fun b u hb e t => k1 b u hb (R2.keep b u e (fun z => z) t), fun b e => R2.thr b (k2 b e)⟩ (fun p hp => ?_) k3 (rl.mono ex3) (rk.mono ex3) k4
        obtain ⟨tp, t1, t2, t3⟩ := R2.gl.1 p hp
        refine ⟨tp, k1 _ _ (ne_of t1 ha2 (by simp)) t1, t2, fun pos cv e => ?_⟩
        obtain ⟨c, rfl, ec⟩ := t3 pos cv e
        exact ⟨c, rfl, k1 _ _ (ne_of ec ha2 (fun z => by unfold LamX.CodeO at z; cases z)) ec⟩
      · rw [if_neg z] at want
        have z' : isNone d = false := Bool.eq_false_iff.mpr z
        have ev2 : execS W (mInit cl T).l (enK W Tb (k + 1) .stuck) (.ite (.cmp .isnot (.v 3) (.c .none)) [.raise1 b (.v 3)] []) [.un, .val dl, .val dk, .val d] = .exc ⟨b, d⟩ [.un, .val dl, .val dk, .val d] := by
          simp -implicitDefEqProofs [z']
        show Want _ (execS W (mInit cl T).l (enK W Tb (k + 1) .stuck) (.ite (.cmp .isnot (.v 3) (.c .none)) [.raise1 b (.v 3)] []) [.un, .val dl, .val dk, .val d]) _
        rw [ev2]
        exact fun σ cls d' H' R rx => want cls d' H' (kp R).1 (kp R).2 rx
end
section
variable {X : Cx} {k : Nat} {fI C : Addr} {fd : FuncData} {ps : List Str} {sp : Sp} {x : Str} {e : Expr} {es : List Expr} {t : TA} {p pos : Pos} {Wx : L2.WX}
/-- C(e, ..): a new instance, then its __init__ -/
theorem pe_makeG (tk : L2.Takes X Wx) (M : Mk X.K C fI) (F : FnG X.prog X.w X.K X.mg X.base k fI fd ps sp) (hr : Room (k + 1) X.A) (hgd : X.A.guards = some []) (hg : Gl X x) (hm : X.mg x = some (.ref C)) (hb : Binds X.K fd ps []) (ha : PA X (e :: es) t)
    (hdb : (x == ("__debug__" : Str)) = false := by decide) (he : starEach (e :: es) X.env = (false, eval e X.env) :: starEach es X.env := by rfl) (hpl : (backTo pos (starEach es X.env)).any (·.1) = false := by rfl) :
    PE X (.Call (.Name x p) (e :: es) [] pos) (fun σ H Q => t σ H fun vs H1 => ∀ y dx, H1 y = none → H1 dx = none → dx ≠ y → sp (.ref y :: vs) (upd (upd H1 dx (.own y)) y (.ins C dx [])) (fun v H2 => v = .non ∧ Q (.ref y) H2) (WE Wx σ)) := by
  refine ⟨fun pins s σ H Q I h => ?_⟩
  refine wpAny_Call_Name_kw (ld_glob I hg hm ?_ hdb)
  refine PySem.W.callWith_K (h₀ := X.base) I.ok.mod.kin M.kp (thn (ha.run pos pins s σ H _ I h) fun us s1 ⟨vs, H1, I1, r, q⟩ => ⟨I1.kIn, ?_⟩) he hpl
  have hq := q (s1.heap.objs.size + 1) s1.heap.objs.size (I1.hok.fresh (Nat.le_succ _)) (I1.hok.fresh (Nat.le_refl _)) (Nat.ne_of_lt (Nat.lt_succ_self _))
  have I2 := Inv.made (C := C) I1
  have r2 : Vals (V.ref (s1.heap.objs.size + 1) :: vs) (Value.ref (s1.heap.objs.size + 1) :: us) := .cons rfl r
  have hl : (Value.ref (s1.heap.objs.size + 1) :: us).length = ps.length := by rw [← r2.length]; exact F.len _ _ _ _ hq
  have hb' := hb _ (Value.ref (s1.heap.objs.size + 1) :: us) I2.kIn (by rw [List.append_nil]; exact hl)
  rw [List.append_nil] at hb'
  refine wpAny_call (make_map (f := fI) I1.kIn M.makes M.init (beq_iff_eq.mp M.fn) (codeAny_mono (F.run _ X.stack _ _ ⟨Value.ref (s1.heap.objs.size + 1) :: us, []⟩ (Value.ref (s1.heap.objs.size + 1) :: us) _ _ _ (hr.make C us []) hgd (I2.env0.make C us []) hb' r2 hq) fun r s' hq' => ?_))
  cases r with
  | error e => exact L2.passAt tk σ pins _ _ e s' I2 hq'
  | ok fl =>
    cases fl with
    | ret u =>
      obtain ⟨v, H', I3, rv, ev, q3⟩ := I2.after hq'
      subst ev
      exact ⟨rv, ⟨V.ref (s1.heap.objs.size + 1), H', I3, rfl, q3⟩⟩
    | next => exact False.elim hq'
    | brk => exact False.elim hq'
    | cont => exact False.elim hq'
end
section
variable {X : Cx} {k wp b : Nat} {fI C : Addr} {gI : FuncData} {nm : Str} {a e : Expr} {p pos : Pos} {Wx : L2.WX} {md : Rm} {en : En} {ma me : ME}
theorem Want.deep {Ex : Exc → Dn.Env → Prop} {P : EV → Dn.Env → Prop} {r : Res EV} {b : Bool} (h : b = true) (w : Want Ex (if b = true then r else .stuck) P) : Want Ex r P := by rwa [if_pos h] at w
theorem pd_wish (hdp : en.deep = true) (tk : L2.Takes X Wx) (M : Mk X.K C fI) (Wc : WCls X.K C nm) (F : FnG X.prog X.w X.K X.mg X.base k fI gI ["self", "library", "kind"] (spInit X.K C md.cl md.T b fun dl dk => en.low wp [.val dl, .val dk])) (hr : Room (k + 1) X.A) (hgd : X.A.guards = some []) (hg : Gl X nm) (hm : X.mg nm = some (.ref C))
    (hb : Binds X.K gI ["self", "library", "kind"] []) (ha : PD md en Wx X a ma) (he : PD md en Wx X e me) (hdb : (nm == ("__debug__" : Str)) = false := by decide) (hs : starEach [a, e] X.env = (false, eval a X.env) :: starEach [e] X.env := by rfl) (hs2 : starEach [e] X.env = (false, eval e X.env) :: starEach [] X.env := by rfl)
    (hpl : (backTo pos (starEach [e] X.env)).any (·.1) = false := by rfl) : PD md en Wx X (.Call (.Name nm p) [a, e] [] pos) (.wish nm wp b ma me) := by
  refine PE.imp (pe_makeG tk M F hr hgd hg hm hb (pa_cons (PE.toV ha) (pa_cons (PE.toV he) pa_nil hs2) hs) hdb hs hpl) fun σ H Q ⟨G, ρ, R, w⟩ => ⟨G, ρ, R, (Want.deep hdp w).bind.mono fun d ρ1 w v H1 fr1 sb1 R1 rep1 => ⟨G, ρ1, R1, w.bind.mono fun d2 ρ2 w v2 H2 fr2 sb2 R2 rep2 => ?_⟩⟩
  intro y dx hy hdx ne
  have grow : ∀ c u, H2 c = some u → upd (upd H2 dx (.own y)) y (.ins C dx []) c = some u := fun c u z => by
    rw [upd_ne (ne_of_none z hy), upd_ne (ne_of_none z hdx)]
    exact z
  have ex : Ext H2 (upd (upd H2 dx (.own y)) y (.ins C dx [])) := (Ex.new hdx).ext.upd_new hy
  refine ⟨y, dx, v, v2, d, d2, H2, rfl, upd_same, hy, ex, rep1.mono (R1.ext fr2), rep2, (R2.grow grow).gl.1, ?_⟩
  -- behind __init__
  have fin : ∀ {H'}, KpB y (upd (upd H2 dx (.own y)) y (.ins C dx [])) H' → LamX.Tabs md.T H' → Dn.Fr σ ρ2 H2 H' ∧ RS G X.K md σ ρ2 H' := fun {H'} kp tb => by
    have kp2 : Kp H2 H' [] [] := ⟨fun c u z _ t => kp.1 c u (ne_of_none z hy) (grow c u z) t, fun c z => by
      have q := kp.2 c z
      cases q' : H2 c with
      | none => rfl
      | some u => rw [grow c u q'] at q; cases q⟩
    obtain ⟨f1, f2, f3⟩ := after_call (outs := []) R2 (as := []) (vs := []) .nil rfl kp2 tb (fun i d v h => by simp at h)
    exact ⟨f1, f3⟩
  have w : Want (ExO G X.K md Wx) (wishR nm b d d2 ρ2 (en.low wp [.val d, .val d2])) (Aft G X.K md σ ρ H Q) := w
  show match en.low wp [.val d, .val d2] with
    | .ok (.val d') _ => if isNone d' = true then _ else _
    | .exc x _ => _
    | _ => False
  cases hl : en.low wp [.val d, .val d2] with
  | stuck => rw [hl] at w; exact False.elim w
  | exc x outs =>
    rw [hl] at w
    intro cls dd H' kp tb rx
    exact (show ExO G X.K md Wx x ρ2 from w) σ cls dd H' (fin kp tb).2 rx
  | ok e' outs =>
    rw [hl] at w
    cases e' with
    | al i => exact False.elim w
    | fr d' => exact False.elim w
    | val d' =>
      by_cases z : isNone d' = true
      · have w : Want (ExO G X.K md Wx) (on (libOf d) fun kvs => .ok (.val (insD nm d d2 kvs)) ρ2) (Aft G X.K md σ ρ H Q) := by
          have e3 : wishR nm b d d2 ρ2 (.ok (.val d') outs) = on (libOf d) fun kvs => .ok (.val (insD nm d d2 kvs)) ρ2 := if_pos z
          rw [e3] at w
          exact w
        obtain ⟨kvs, e1, w'⟩ := Want.on w
        clear w
        show (if isNone d' = true then _ else _)
        rw [if_pos z]
        cases d with
        | tuple its =>
          refine ⟨its, kvs, rfl, e1, fun H' v' kp tb h1 r1 r2 r3 => ⟨rfl, ?_⟩⟩
          obtain ⟨f1, f2⟩ := fin kp tb
          exact (show Aft G X.K md σ ρ H Q (.val (insD nm (.tuple its) d2 kvs)) ρ2 from w') (.ref y) H' (fr1.trans sb1 (fr2.trans sb2 f1)) (sb1.trans sb2) f2 (.ins h1 Wc.toInsC (.cons r1 (.cons r2 (.cons r3 .nil))))
        | _ => cases e1
      · show (if isNone d' = true then _ else _)
        rw [if_neg z]
        have w : ExO G X.K md Wx ⟨b, d'⟩ ρ2 := by
          have e3 : wishR nm b d d2 ρ2 (.ok (.val d') outs) = .exc ⟨b, d'⟩ ρ2 := if_neg z
          rw [e3] at w
          exact w
        intro cls dd H' kp tb rx
        exact w σ cls dd H' (fin kp tb).2 rx
end
/-- .. at a level that has room for it -/
theorem pd_wishE {W k wp b : Nat} {T : List FD} {X : Cx} {e : Expr} {nm : Str} {ma me : ME} {md : Rm} {Wx : L2.WX} {r : CRes} (h : ∀ j, k = j + 2 → PD md (enK W T k r) Wx X e (.wish nm wp b ma me)) : PD md (enK W T k r) Wx X e (.wish nm wp b ma me) := by
  by_cases z : 2 ≤ k
  · exact h (k - 2) (by omega)
  · refine ⟨fun pins s σ H Q I ⟨G, ρ, R, w⟩ => False.elim ?_⟩
    have e : evalE md.l (enK W T k r) (.wish nm wp b ma me) ρ = .stuck := if_neg (by show ¬ decide (2 ≤ k) = true; simpa using z)
    rw [e] at w
    exact w
end Dn
/-! Den25: isinstance(x, C) for an own class of instances -/
namespace Dn
open PySem PySem.Spec PyProof.Rows L2
/-- what is asked of the class -/
structure IsW (K : PySem.W.Frag) (C : Addr) : Prop where
  cl : (PySem.W.clsIn K C).isSome = true
  ty : PySem.W.typeIn K (.ref C) = some (.type "type")
  no : ∀ t ∈ ["NoneType", "int", "str", "bool", "tuple", "list", "dict"], PySem.W.subIn K (.type t) (.ref C) = some false
theorem IsW.one {K : PySem.W.Frag} {C : Addr} {t : String} (h : IsW K C) (m : t ∈ ["NoneType", "int", "str", "bool", "tuple", "list", "dict"]) : PySem.W.kitOne K (.type t) (.ref C) = some false := by
  show (if (Value.type t == Value.ref C) = true then some true else PySem.W.kitCls K (.type t) (.ref C)) = some false
  rw [if_neg (by intro z; have := beq_iff_eq.mp z; cases this)]
  show (if ((PySem.W.clsIn K C).isSome && PySem.W.typeIn K (.ref C) == some (.type "type")) = true then PySem.W.subIn K (.type t) (.ref C) else none) = some false
  rw [if_pos (by rw [h.cl, h.ty]; rfl)]
  exact h.no t m
theorem iswD_not {nm : Str} {kvs : List (PyData × PyData)} (h : isIns kvs = false) : iswD nm (.dict kvs) = some false := by
  cases kvs with
  | nil => rfl
  | cons p r =>
    obtain ⟨a, b⟩ := p
    cases a with
    | none => cases h
    | _ => rfl
theorem RdD.isw {K : PySem.W.Frag} {H : Hp} {v : V} {d : PyData} {nm : Str} {C : Addr} {b : Bool} (h : RdD K H v d) (W : IsW K C) (hn : PySem.W.nsIn K mainGlobals nm = some (some (.ref C))) (e : iswD nm d = some b) : ∃ t, TyX K H v t ∧ PySem.W.kitOne K t (.ref C) = some b := by
  cases d with
  | none => cases (show v = V.non from h); cases e; exact ⟨_, .base .non, W.one (by simp)⟩
  | bool x => cases (show v = V.bl x from h); cases e; exact ⟨_, .base (.bl x), W.one (by simp)⟩
  | int i => cases (show v = V.int i from h); cases e; exact ⟨_, .base (.int i), W.one (by simp)⟩
  | str x => cases (show v = V.str x from h); cases e; exact ⟨_, .base (.str x), W.one (by simp)⟩
  | list l =>
    obtain ⟨a, xs, rfl, h1, _⟩ := h
    cases e
    refine ⟨.type "list", ?_, W.one (by simp)⟩
    rcases h1 with (h1 | ⟨o, h1⟩) | ⟨o, its, n, h1, h2, _⟩
    · exact .base (.lst h1)
    · exact .base (.frz h1)
    · exact .kList h1 h2
  | tuple l =>
    obtain ⟨a, xs, rfl, ⟨h1, _⟩, _⟩ := h
    cases e
    refine ⟨.type "tuple", ?_, W.one (by simp)⟩
    rcases h1 with (h1 | ⟨o, h1⟩) | ⟨o, its, n, h1, h2, _⟩
    · exact .base (.tup h1)
    · exact .fTuple h1
    · exact .kTuple h1 h2
  | dict l =>
    obtain ⟨a, rfl, ⟨ps, h1, r⟩ | h1⟩ := h
    · rw [iswD_not r.no] at e
      cases e
      refine ⟨.type "dict", ?_, W.one (by simp)⟩
      rcases h1 with h1 | ⟨o, h1⟩
      · exact .base (.dK h1)
      · exact .fDict h1
    · obtain ⟨C', dx, nm', fs, ds, rfl, h1, c, _⟩ := h1
      have e : (if nm' = nm then some true else none) = some b := e
      by_cases z : nm' = nm
      · rw [if_pos z] at e
        cases e
        subst z
        have q := c.nm
        rw [hn] at q
        cases q
        exact ⟨.ref C, .base (.ins h1 c.cl c.ha c.hn c.htk c.hm), if_pos (beq_self_eq_true _)⟩
      · rw [if_neg z] at e
        cases e
section
variable {md : Rm} {en : En} {Wx : L2.WX} {X : Cx} {a : Expr} {ma : ME} {pos p q : Pos}
theorem pd_isw {nm : Str} {C : Addr} (W : IsW X.K C) (hI : PySem.W.nsIn X.K mainGlobals nm = some (some (.ref C))) (hi : Gl X "isinstance") (hmi : X.mg "isinstance" = none) (ha : PD md en Wx X a ma) (hg : Gl X nm) (hm : X.mg nm = some (.ref C)) (hd : (nm == ("__debug__" : Str)) = false := by decide)
    (hs : starEach [a, .Name nm q] X.env = (false, eval a X.env) :: starEach [.Name nm q] X.env := by rfl) (hpl : (backTo pos (starEach [.Name nm q] X.env)).any (·.1) = false := by rfl) :
    PD md en Wx X (.Call (.Name "isinstance" p) [a, .Name nm q] [] pos) (.isw nm ma) := by
  refine PE.imp (pe_callB call_isi hi hmi (by decide +kernel) (pa_cons (PE.toR ha) (pa_cons (pe_glob hg hm (v := .ref C) rfl hd) pa_nil (by rfl)) hs) (by decide) (by decide) hs hpl) fun σ H Q ⟨G, ρ, R, w⟩ => ?_
  refine ⟨G, ρ, R, w.bind.mono fun x ρ1 w v H1 fr1 sb1 R1 rep1 => ?_⟩
  obtain ⟨d, e, w⟩ := Want.on w
  obtain ⟨b, e2, w'⟩ := Want.on w
  clear w
  obtain ⟨t, ht, hk⟩ := (rep1.rd R1 e).isw W hI e2
  exact ⟨v, _, _, _, _, rfl, .own _, ht, hk, (RNew.of R1 (Aft.back fr1 sb1 (show Aft G X.K md σ ρ H Q (.val (.bool b)) ρ1 from w'))).here (.bl _)⟩
end
end Dn
/-! Den26: x == y, x != y of instances by the class's own __eq__ -/
namespace Dn
open PySem PySem.Spec PyProof.Rows L2
/-- what is asked of the class -/
structure EqW (K : PySem.W.Frag) (C f : Addr) : Prop where
  eq : PySem.W.findIn K (.ref C) "__eq__" = some (some (.ref f))
  fn : PySem.W.isFn K (.ref f) = true
  ne : PySem.W.findIn K (.ref C) "__ne__" = some (some (.builtin "object.__ne__"))
  mo : PySem.W.mroIn K C (.type "object") = some true
theorem IsW.nf {K : PySem.W.Frag} {C : Addr} {t : String} (h : IsW K C) (m : t ∈ ["NoneType", "int", "str", "bool", "tuple", "list", "dict"]) : PySem.W.notFirst K C (.type t) = true := by
  show ((Value.type t == Value.ref C) || (PySem.W.subIn K (.type t) (.ref C) == some false)) = true
  rw [h.no t m]
  exact Bool.or_true _
theorem RdD.nf {K : PySem.W.Frag} {H : Hp} {v : V} {d : PyData} {nm : Str} {C : Addr} {b : Bool} (h : RdD K H v d) (W : IsW K C) (hn : PySem.W.nsIn K mainGlobals nm = some (some (.ref C))) (e : iswD nm d = some b) : ∃ t, TyX K H v t ∧ PySem.W.notFirst K C t = true := by
  cases d with
  | none => cases (show v = V.non from h); exact ⟨_, .base .non, W.nf (by simp)⟩
  | bool x => cases (show v = V.bl x from h); exact ⟨_, .base (.bl x), W.nf (by simp)⟩
  | int i => cases (show v = V.int i from h); exact ⟨_, .base (.int i), W.nf (by simp)⟩
  | str x => cases (show v = V.str x from h); exact ⟨_, .base (.str x), W.nf (by simp)⟩
  | list l =>
    obtain ⟨a, xs, rfl, h1, _⟩ := h
    refine ⟨.type "list", ?_, W.nf (by simp)⟩
    rcases h1 with (h1 | ⟨o, h1⟩) | ⟨o, its, n, h1, h2, _⟩
    · exact .base (.lst h1)
    · exact .base (.frz h1)
    · exact .kList h1 h2
  | tuple l =>
    obtain ⟨a, xs, rfl, ⟨h1, _⟩, _⟩ := h
    refine ⟨.type "tuple", ?_, W.nf (by simp)⟩
    rcases h1 with (h1 | ⟨o, h1⟩) | ⟨o, its, n, h1, h2, _⟩
    · exact .base (.tup h1)
    · exact .fTuple h1
    · exact .kTuple h1 h2
  | dict l =>
    obtain ⟨a, rfl, ⟨ps, h1, r⟩ | h1⟩ := h
    · refine ⟨.type "dict", ?_, W.nf (by simp)⟩
      rcases h1 with h1 | ⟨o, h1⟩
      · exact .base (.dK h1)
      · exact .fDict h1
    · obtain ⟨C', dx, nm', fs, ds, rfl, h1, c, _⟩ := h1
      have e : (if nm' = nm then some true else none) = some b := e
      by_cases z : nm' = nm
      · subst z
        have q := c.nm
        rw [hn] at q
        cases q
        refine ⟨.ref C, .base (.ins h1 c.cl c.ha c.hn c.htk c.hm), ?_⟩
        show ((Value.ref C == Value.ref C) || _) = true
        rw [beq_self_eq_true]
        rfl
      · rw [if_neg z] at e
        cases e
/-! ### the comparison -/
section
variable {prog : Program} {w : World} {A : Around} {E : Value → Shared → Prop} {s : Shared} {K : PySem.W.Frag} {x C f : Addr} {ox : Obj} {od : Option Obj} {b tb : Value}
open PySem.W in
/-- the left one is asked first, and answers -/
theorem rich_first {op : CmpOp} {Q : Value → Shared → Prop} (hu : A.units < cLine) (X : K.In s.heap) (I : InstAt s.heap x ox C od) (hb : Looks (model prog w) s.heap (typeOf b) tb) (hn : notFirst K C tb = true)
    (one : wpAny (model prog w) A (tryCompare (.ref x) (cmpInfo op).2.1 b) (fun r s' => ∃ v, r = some v ∧ Q v s') E s) : wpAny (model prog w) A (richCompare op (.ref x) b) Q E s := by
  have two : ∀ (k : Option Value → Sem Value), (∀ v, k (some v) = pure v) → wpAny (model prog w) A (tryCompare (.ref x) (cmpInfo op).2.1 b >>= k) Q E s := fun k hk =>
    wpAny_bind (wpAny_mono one (fun r s' ⟨v, e, q⟩ => by rw [e, hk]; exact wpAny_pure q) fun _ _ e => e)
  unfold richCompare
  simp only [oneThing_ref]
  refine wpAny_holding (wpAny_bind (wpAny_cRoomFor hu ?_))
  refine wpAny_bind (I.type.here (wpAny_bind (hb.here ?_)))
  by_cases q : tb = .ref C
  · rw [if_neg (by rw [q]; simp)]
    exact wpAny_bind (wpAny_pure (two _ fun v => rfl))
  · rw [if_pos (by simpa using fun z : Value.ref C = tb => q z.symm)]
    have e : subIn K tb (.ref C) = some false := by
      rcases Bool.or_eq_true_iff.mp hn with e | e
      · exact absurd (beq_iff_eq.mp e) q
      · exact beq_iff_eq.mp e
    exact wpAny_bind ((looks_subIn X e).here (two _ fun v => rfl))
theorem ne_plain : (PySem.F.cmp_object.ne).plain = (PySem.F.cmp_object.ne).plain := rfl
open PySem.W Builtin in
theorem try_ne {Q : Value → Shared → Prop} (hu : A.in1.units < cLine) (X : K.In s.heap) (I : InstAt s.heap x ox C od) (W : EqW K C f) (h : wpAny (model prog w) A.in1 (call (.ref f) [.ref x, b]) (fun v s' => ∃ c, v = .bool c ∧ Q (.bool (!c)) s') E s) :
    wpAny (model prog w) A (tryCompare (.ref x) "__ne__" b) (fun r s' => ∃ v, r = some v ∧ Q v s') E s := by
  have run : wpAny (model prog w) A (call (.builtin "object.__ne__") [.ref x, b]) (fun v s' => ∃ c, v = .bool c ∧ Q (.bool c) s') E s := by
    refine wpAny_call (codeAny_call_builtin PySem.F.cmp_object.ne.plain PySem.F.cmpEntry_ne (check_slot (i := "object.__ne__") (owner := "object") (n := "__ne__") PySem.F.cmpKind_ne PySem.F.cmpSplit_ne (I.type.andThen (looks_mroIn X W.mo)) (PySem.F.cmpArgs_ne _ _) ?_))
    unfold Builtin.«object.__ne__»
    refine wpAny_bind (m := slotArgs "__ne__" 1 _) (wpAny_pure ?_)
    refine wpAny_bind (m := cRoomFor _ _) (wpAny_cRoomFor hu ?_)
    refine wpAny_bind (m := callSpecialIfBound? (.ref x) (Str.ofString "__eq__") _) (ifBound_K X I W.eq W.fn (wpAny_mono h (fun r s' hq => ?_) fun _ _ y => y))
    obtain ⟨c, rfl, q⟩ := hq
    refine wpAny_bind (m := PySem.truthy (.bool c)) (wpAny_truthy_bool ?_)
    exact wpAny_pure ⟨!c, rfl, q⟩
  unfold tryCompare
  refine wpAny_bind ?_
  simp only [callSpecialIfBound?, bindSpecialIfBound?]
  refine wpAny_holding (wpAny_bind (wpAny_bind (wpAny_bind (I.type.here ((looks_findIn X W.ne).here ?_)))))
  simp only [PySem.F.cmp_object.ne.bind]
  refine wpAny_bind (wpAny_askSetting (wpAny_ite ?_))
  have fin : wpAny (model prog w) A (call (.builtin "object.__ne__") ([.ref x] ++ [b]) >>= fun v => pure (some v)) (fun r s' => wpAny (model prog w) A (match r with
    | some .notImplemented | none => pure none
    | some v => pure (some v)) (fun r s' => ∃ v, r = some v ∧ Q v s') E s') E s := wpAny_bind (wpAny_mono run (fun v s' hv => by
      obtain ⟨c, rfl, q⟩ := hv
      exact wpAny_pure (wpAny_pure ⟨_, rfl, q⟩)) fun _ _ h' => h')
  split
  · exact wpAny_bind (wpAny_pure (wpAny_pure (by exact fin)))
  · exact wpAny_tryCatch (wpAny_bind (wpAny_pure (wpAny_pure (by exact fin))))
end
section
variable {X : Cx} {k : Nat} {f C : Addr} {fd : FuncData} {sp : Sp} {Wx : L2.WX}
/-- a def, run one unit deeper -/
theorem run_fnG1 {A : Around} {ps : List Str} {pins : List (Addr × Obj)} {σ : L2.St} {H : Hp} {s : Shared} {Q : VK} {us : List Value} {vs : List V} (tk : L2.Takes X Wx) (F : FnG X.prog X.w X.K X.mg X.base k f fd ps sp) (hA : A = X.A ∨ A = X.A.in1) (hr : Room (k + 1) X.A) (hgd : X.A.guards = some []) (hb : Binds X.K fd ps [])
    (I : L2.Inv X pins σ H s) (r : Vals vs us) (h : sp vs H Q (WE Wx σ)) : wpAny (model X.prog X.w) A (PySem.call (.ref f) us) (EP X pins σ Q) X.xe s := by
  have hl : us.length = ps.length := by rw [← r.length]; exact F.len _ _ _ _ h
  have hb' := hb s us I.kIn (by rw [List.append_nil]; exact hl)
  rw [List.append_nil] at hb'
  have fin : codeAny (model X.prog X.w) A (.call (.ref f) ⟨us, []⟩) (CR (L2.CX X.prog X.w) X.stack X.prog X.w H s Q (WE Wx σ)) s := by
    rcases hA with rfl | rfl
    · exact F.run X.A X.stack s H ⟨us, []⟩ us vs Q _ (hr.mono (Nat.le_succ _)) hgd I.env0 hb' r h
    · exact F.run X.A.in1 X.stack s H ⟨us, []⟩ us vs Q _ hr.in1 hgd I.env0.in1 hb' r h
  refine wpAny_call (codeAny_mono fin fun r s' hq => ?_)
  cases r with
  | error e => exact L2.passAt tk σ pins H s e s' I hq
  | ok fl =>
    cases fl with
    | ret u => exact I.after hq
    | next => exact False.elim hq
    | brk => exact False.elim hq
    | cont => exact False.elim hq
def opE (neg : Bool) : CmpOp := if neg then .NotEq else .Eq
def rEqw (K : PySem.W.Frag) (C : Addr) (sp : Sp) (neg : Bool) : R2 := fun x y H Q => ∃ a dx fs t, x = .ref a ∧ H a = some (.ins C dx fs) ∧ TyX K H y t ∧ PySem.W.notFirst K C t = true ∧ ∀ E, sp [x, y] H (fun v H' => ∃ c, v = .bl c ∧ Q (.bl (c != neg)) H') E
theorem op_eqw (neg : Bool) (tk : L2.Takes X Wx) (W : EqW X.K C f) (F : FnG X.prog X.w X.K X.mg X.base k f fd ["self", "other"] sp) (hr : Room (k + 1) X.A) (hgd : X.A.guards = some []) (hb : Binds X.K fd ["self", "other"] []) : OpR X (compareOp (opE neg)) (rEqw X.K C sp neg) := by
  intro pins s σ H x y v u Q I rx ry h
  obtain ⟨a, dx, fs, t, rfl, ha, ty, hn, q⟩ := h
  cases (show v = Value.ref a from rx)
  obtain ⟨P, Z, p, _⟩ := kit_of I ry ty
  obtain ⟨mA, O, _⟩ := ins_get I.hok ha
  obtain ⟨od, J, _⟩ := O.look
  have LT := Z.ty (model X.prog X.w) s.heap I.kIn p
  have q := q (WE Wx σ)
  cases neg with
  | false =>
    show wpAny _ _ (richCompare .Eq (.ref a) u) _ _ _
    refine rich_first (op := .Eq) (tb := t) hr.units0 I.kIn J LT hn ?_
    show wpAny _ _ (tryCompare (.ref a) "__eq__" u) _ _ _
    unfold tryCompare
    refine wpAny_bind (PySem.W.ifBound_K I.kIn J W.eq W.fn (wpAny_mono (run_fnG1 (us := [.ref a, u]) (vs := [.ref a, y]) tk F (.inl rfl) hr hgd hb I (.cons rfl (.cons ry .nil)) q) (fun r s' hq => ?_) fun _ _ e => e))
    obtain ⟨z, H', I', rz, c, rfl, qz⟩ := hq
    cases (show r = Value.bool c from rz)
    rw [Bool.bne_false] at qz
    exact wpAny_pure ⟨_, rfl, .bl c, H', I', rfl, qz⟩
  | true =>
    show wpAny _ _ (richCompare .NotEq (.ref a) u) _ _ _
    refine rich_first (op := .NotEq) (tb := t) hr.units0 I.kIn J LT hn ?_
    show wpAny _ _ (tryCompare (.ref a) "__ne__" u) _ _ _
    refine try_ne hr.in1.units0 I.kIn J W (wpAny_mono (run_fnG1 (us := [.ref a, u]) (vs := [.ref a, y]) tk F (.inr rfl) hr hgd hb I (.cons rfl (.cons ry .nil)) q) (fun r s' hq => ?_) fun _ _ e => e)
    obtain ⟨z, H', I', rz, c, rfl, qz⟩ := hq
    cases (show r = Value.bool c from rz)
    rw [Bool.bne_true] at qz
    exact ⟨c, rfl, .bl (!c), H', I', rfl, qz⟩
theorem iswD_true {nm : Str} {d : PyData} (h : iswD nm d = some true) : ∃ kvs, d = .dict ((.none, .str nm) :: kvs) := by
  unfold iswD at h
  split at h
  · split at h
    case isTrue z => subst z; exact ⟨_, rfl⟩
    case isFalse => cases h
  · cases h
theorem RdD.ins {K : PySem.W.Frag} {H : Hp} {v : V} {nm : Str} {C : Addr} {kvs : List (PyData × PyData)} (hI : PySem.W.nsIn K mainGlobals nm = some (some (.ref C))) (h : RdD K H v (.dict ((.none, .str nm) :: kvs))) : ∃ a dx fs, v = .ref a ∧ H a = some (.ins C dx fs) := by
  obtain ⟨a, rfl, ⟨ps, _, r⟩ | ⟨C', dx, nm', fs, ds, e4, h1, c, r⟩⟩ := h
  · have z := r.no
    cases z
  · cases e4
    have z := c.nm
    rw [hI] at z
    cases z
    exact ⟨a, dx, fs, rfl, h1⟩
theorem pd_eqw {nm : Str} {g : Nat} {neg : Bool} {md : Rm} {en : En} {a b : Expr} {ma mb : ME} {pos : Pos} (hdp : en.deep = true) (tk : L2.Takes X Wx) (W : EqW X.K C f) (I : IsW X.K C) (hI : PySem.W.nsIn X.K mainGlobals nm = some (some (.ref C)))
    (F : FnG X.prog X.w X.K X.mg X.base k f fd ["self", "other"] (spF X.K md.cl md.T [false, false] (en.low g))) (hr : Room (k + 1) X.A) (hgd : X.A.guards = some []) (hb : Binds X.K fd ["self", "other"] [])
    (ha : PD md en Wx X a ma) (hb' : PD md en Wx X b mb) (hm : behindInMarks (opE neg) b = false) : PD md en Wx X (.Compare a [opE neg] [b] pos) (.eqw nm g neg ma mb) := by
  refine PE.imp (pe_cmpR (op_eqw neg tk W F hr hgd hb) (PE.toV ha) (PE.toV hb') hm) fun σ H Q ⟨G, ρ, R, w⟩ => ⟨G, ρ, R, (Want.deep hdp w).bind.mono fun d ρ1 w v H1 fr1 sb1 R1 rep1 => ⟨G, ρ1, R1, w.bind.mono fun d2 ρ2 w v2 H2 fr2 sb2 R2 rep2 => ?_⟩⟩
  have w9 : Want (ExO G X.K md Wx) (eqwR nm neg d d2 ρ2 (en.low g [.val d, .val d2])) (Aft G X.K md σ ρ H Q) := w
  cases hl : en.low g [.val d, .val d2] with
  | stuck => rw [hl] at w9; exact False.elim w9
  | exc x outs => rw [hl] at w9; exact False.elim w9
  | ok e' outs =>
    rw [hl] at w9
    cases e' with
    | al i => exact False.elim w9
    | fr d' => exact False.elim w9
    | val d' =>
      cases d' with
      | bool c =>
        by_cases z : iswD nm d = some true ∧ (iswD nm d2).isSome = true
        · have e : eqwR nm neg d d2 ρ2 (.ok (.val (.bool c)) outs) = .ok (.val (.bool (c != neg))) ρ2 := if_pos z
          rw [e] at w9
          obtain ⟨z1, z2⟩ := z
          obtain ⟨kvs, rfl⟩ := iswD_true z1
          obtain ⟨b2, z2⟩ := Option.isSome_iff_exists.mp z2
          obtain ⟨t, ty, nf⟩ := rep2.rd.nf I hI z2
          have rep1' := rep1.mono (R1.ext fr2)
          obtain ⟨ad, dx, fs, rfl, hins⟩ := rep1'.rd.ins hI
          refine ⟨ad, dx, fs, t, rfl, hins, ty, nf, fun E => ⟨[.val _, .val d2], ⟨.cons rep1' (.cons rep2 .nil), fun i j b d e h => ?_, fun i d h => ?_⟩, R2.gl.1, ?_⟩⟩
          · match i, h with
            | i + 2, h => simp at h
          · match i, h with
            | i + 2, h => simp at h
          · rw [hl]
            intro v' H' kp tb rn ho
            have rn : Rep X.K H' v' (.bool c) := rn
            cases rn
            refine ⟨c, rfl, ?_⟩
            have kp2 : Kp H2 H' [] [] := ⟨fun c u z n t => kp.1 c u z (fun ⟨i, d, q, _⟩ => by
              match i, q with
              | i + 2, q => simp at q) t, kp.2⟩
            obtain ⟨f1, f2, f3⟩ := after_call (outs := []) R2 (as := []) (vs := []) .nil rfl kp2 tb (fun i d v h => by simp at h)
            exact (show Aft G X.K md σ ρ H Q (.val (.bool (c != neg))) ρ2 from w9) _ H' (fr1.trans sb1 (fr2.trans sb2 f1)) (sb1.trans sb2) f3 (.bl _)
        · have e : eqwR nm neg d d2 ρ2 (.ok (.val (.bool c)) outs) = .stuck := if_neg z
          rw [e] at w9
          exact False.elim w9
      | _ => exact False.elim w9
end
/-- .. at a level that has room for it -/
theorem pd_eqwE {W k g : Nat} {T : List FD} {X : Cx} {e : Expr} {nm : Str} {neg : Bool} {ma me : ME} {md : Rm} {Wx : L2.WX} {r : CRes} (h : ∀ j, k = j + 2 → PD md (enK W T k r) Wx X e (.eqw nm g neg ma me)) : PD md (enK W T k r) Wx X e (.eqw nm g neg ma me) := by
  by_cases z : 2 ≤ k
  · exact h (k - 2) (by omega)
  · refine ⟨fun pins s σ H Q I ⟨G, ρ, R, w⟩ => False.elim ?_⟩
    have e : evalE md.l (enK W T k r) (.eqw nm g neg ma me) ρ = .stuck := if_neg (by show ¬ decide (2 ≤ k) = true; simpa using z)
    rw [e] at w
    exact w
end Dn
/-! Den29: name.extend(new list), list(range(n)) -/
namespace Dn
open PySem PySem.Spec PyProof.Rows L2
section
variable {W : Nat} {md : Rm} {en : En} {Wx : L2.WX} {X : Cx} {x : Str} {pos p1 p2 p q : Pos} {e : Expr} {m : ME}
theorem sd_ext (i : Nat) {apos : Pos} (hi : X.N[i]? = some x) (hx : Vis X.env.scope x) (he : PD md en Wx X e m) (hs : swapsWith (.Call (.Attribute (.Name x p1) "extend" apos) [e] [] p2) none pos.line X.env = pure false)
    (hbase : attributeBase (.Name x p1) "extend" X.env (eval (.Name x p1) X.env) = eval (.Name x p1) X.env := by rfl)
    (hfew : ((backTo p2 (starEach [e] X.env)).all (fun x => !x.1) && (backToKw p2 (keywordEach [] X.env)).all (fun x => x.1.isSome)
      && decide ([e].length + ([] : List Keyword).length + (if ([] : List Keyword).isEmpty then 0 else 1) < 30)) = true := by rfl)
    (hline : (apos.endLine == p2.line) = true := by rfl) (h1 : starEach [e] X.env = (false, eval e X.env) :: starEach [] X.env := by rfl) (hplain : (backTo p2 (starEach [] X.env)).any (·.1) = false := by rfl) (hd : (x == ("__debug__" : Str)) = false := by decide) (hcd : (x == ("__classdict__" : Str)) = false := by decide) :
    SD W md en Wx X (.Expr (.Call (.Attribute (.Name x p1) "extend" apos) [e] [] p2) pos) (.ext i m) := by
  refine PS.imp (ps_expr (pe_bm PySem.F.plainAttrs_list PySem.F.slot_list_extend PySem.F.type_list_extend mt_extend (pe_var hi hx hd hcd) (pa_cons he pa_nil h1) hbase hfew hline h1 hplain) hs) fun D σ H ⟨G, ρ, R, w⟩ => ?_
  have w : Want _ (if isOwn ρ i = true then (evalE md.l en m ρ).bind fun x ρ => extR i ρ x ρ[i]? else .stuck) (FlP G X.K md H D) := w
  by_cases ho : isOwn ρ i = true
  case neg => rw [if_neg ho] at w; exact False.elim w
  rw [if_pos ho] at w
  obtain ⟨v0, hv, ty⟩ := tyv_own R ho
  refine ⟨v0, hv, ty, G, ρ, R, w.bind.mono fun z ρ1 w v H1 fr1 sb1 R1 rep1 => ?_⟩
  cases z with
  | val d => cases ρ1[i]? <;> exact False.elim w
  | al j => cases ρ1[i]? <;> exact False.elim w
  | fr d =>
    cases zi : ρ1[i]? with
    | none => rw [zi] at w; cases d <;> exact False.elim w
    | some t =>
      rw [zi] at w
      cases d with
      | list m' =>
        cases t with
        | own d2 =>
          cases d2 with
          | list l =>
            have w : Want _ (if l.length + m'.length ≤ szl then Res.ok Fl.nx (ρ1.set i (.own (.list (l ++ m')))) else .stuck) (FlP G X.K md H D) := w
            by_cases hz : l.length + m'.length ≤ szl
            case neg => rw [if_neg hz] at w; exact False.elim w
            rw [if_pos hz] at w
            obtain ⟨b, rfl, _, ro⟩ := rep1
            obtain ⟨b', zs, eb, hb, rzs⟩ := ro.list
            cases eb
            obtain ⟨p, xs, rfl, hp, rxs, U⟩ := upd_own (es := l ++ m') R1 zi hv
            obtain ⟨fr3, sb3, R3⟩ := U (xs ++ zs) (rxs.append rzs)
            exact ⟨p, b, xs, zs, rfl, rfl, hp, hb, by rw [rxs.length, rzs.length, ← szl_eq]; exact hz, (show FlP G X.K md H D .nx _ from w) σ _ R3 ((R.ext fr1).trans (R1.ext fr3))⟩
          | _ => exact False.elim w
        | _ => exact False.elim w
      | _ => exact False.elim w
theorem dext (i : Nat) {apos : Pos} (he : PD md en Wx X e m) (hi : X.N[i]? = some x := by rfl) (hv : Vis X.env.scope x := by first | exact Or.inl rfl | exact Or.inr (Or.inl rfl) | exact Or.inr (Or.inr rfl)) (hs : swapsWith (.Call (.Attribute (.Name x p1) "extend" apos) [e] [] p2) none pos.line X.env = pure false := by rfl)
    (hbase : attributeBase (.Name x p1) "extend" X.env (eval (.Name x p1) X.env) = eval (.Name x p1) X.env := by rfl)
    (hfew : ((backTo p2 (starEach [e] X.env)).all (fun x => !x.1) && (backToKw p2 (keywordEach [] X.env)).all (fun x => x.1.isSome)
      && decide ([e].length + ([] : List Keyword).length + (if ([] : List Keyword).isEmpty then 0 else 1) < 30)) = true := by rfl)
    (hline : (apos.endLine == p2.line) = true := by rfl) (h1 : starEach [e] X.env = (false, eval e X.env) :: starEach [] X.env := by rfl) (hplain : (backTo p2 (starEach [] X.env)).any (·.1) = false := by rfl) (hd : (x == ("__debug__" : Str)) = false := by decide) (hcd : (x == ("__classdict__" : Str)) = false := by decide) :
    SD W md en Wx X (.Expr (.Call (.Attribute (.Name x p1) "extend" apos) [e] [] p2) pos) (.ext i m) := sd_ext i hi hv he hs hbase hfew hline h1 hplain hd hcd
/-- list(range(n)) -/
theorem pd_lrg (hc : X.calm = true) (hg : Gl X "list") (hm : X.mg "list" = none) (hg2 : Gl X "range") (hm2 : X.mg "range" = none) (ha : PD md en Wx X e m) (na : starEach [e] X.env = (false, eval e X.env) :: starEach [] X.env := by rfl)
    (na2 : starEach [.Call (.Name "range" p) [e] [] q] X.env = (false, eval (.Call (.Name "range" p) [e] [] q) X.env) :: starEach [] X.env := by rfl) : PD md en Wx X (.Call (.Name "list" p1) [.Call (.Name "range" p) [e] [] q] [] pos) (.lrg m) := by
  refine PE.imp (pe_listRg hc hg hm (prg_1 hg2 hm2 (PE.toV ha) na) na2) fun σ H Q ⟨G, ρ, R, w⟩ => ⟨G, ρ, R, w.bind.mono fun d ρ1 w v H1 fr1 sb1 R1 rep1 => ?_⟩
  cases d with
  | int n =>
    cases rep1
    have w : Want _ (if -(2 ^ 62) ≤ n ∧ n ≤ 16777216 then Res.ok (EV.fr (.list ((List.range n.toNat).map fun (j : Nat) => PyData.int (j : Int)))) ρ1 else .stuck) (Aft G X.K md σ ρ H Q) := w
    by_cases z : -(2 ^ 62) ≤ n ∧ n ≤ 16777216
    · rw [if_pos z] at w
      obtain ⟨z1, z2⟩ := z
      refine ⟨n, rfl, ⟨by omega, by omega, by omega, by omega, by omega⟩, fun p hp => ?_⟩
      have rp : Reps X.K H1 (rgV 0 n) ((List.range n.toNat).map fun (j : Nat) => PyData.int (j : Int)) := by
        have e : rgV 0 n = ((List.range n.toNat).map fun (j : Nat) => (j : Int)).map V.int := by
          unfold rgV
          rw [List.map_map, Int.sub_zero]
          refine List.map_congr_left fun j _ => ?_
          show V.int (0 + (j : Int)) = V.int (j : Int)
          rw [Int.zero_add]
        have e2 : ((List.range n.toNat).map fun (j : Nat) => PyData.int (j : Int)) = ((List.range n.toNat).map fun (j : Nat) => (j : Int)).map PyData.int := by
          rw [List.map_map]
          rfl
        rw [e, e2]
        generalize (List.range n.toNat).map (fun (j : Nat) => (j : Int)) = l
        induction l with
        | nil => exact .nil
        | cons i l ih => exact .cons (.int i) ih
      exact (RNew.of R1 (Aft.back fr1 sb1 (show Aft G X.K md σ ρ H Q _ ρ1 from w))).list rp p hp
    · rw [if_neg z] at w
      exact False.elim w
  | _ => exact False.elim w
end
end Dn
/-! Den20: plain facts of defs that all the laws share: names, kinds, what is none -/
namespace Dn
open PySem
@[simp] theorem modesOf_def {T : List FD} {g : Nat} : modesOf T g = ((T[g]?).map (fun (x : FD) => x.md)).getD [] := rfl
@[simp] theorem in_str {i j : Str} : inD (.str i) (.str j) = some (inStr i j) := rfl
@[simp] theorem len_str {x : Str} : bltD .len [.str x] = if x.length ≤ szl then some (.val (.int x.length)) else none := rfl
/-- a text's signs -/
def chs (s : Str) : List PyData := s.cps.toList.map fun c => .str ⟨#[c]⟩
theorem chs_len (s : Str) : (chs s).length = s.length := by
  unfold chs
  rw [List.length_map]
  exact Array.length_toList
@[simp] theorem itm_str {x : Str} : itemsD (.str x) = some (chs x) := rfl
def signs : Str := "abcdefghijklmnopqrstuvwxyz"
def isSign (d : PyData) : Bool := match d with
  | .str c => inStr c signs
  | _ => false
/-- is the text a name -/
def nm (s : Str) : Bool := decide (1 ≤ s.length ∧ s.length ≤ 8) && ((chs s).map isSign).all id
theorem nm_len {s : Str} (h : nm s = true) : 1 ≤ s.length ∧ s.length ≤ 8 := by
  unfold nm at h
  simp only [Bool.and_eq_true, decide_eq_true_eq] at h
  exact h.1
def fdIsName : FD := { np := 1, ns := 2, md := [false], body := [.ret (.and (.isi (.v 0) [.str]) (.and (.chain .le .le (.c (.int 1)) (.blt .len [.v 0]) (.c (.int 8))) (.blt .all [.lc [1] (.n 1) (.ex (.v 0)) [] (.cmp .isin (.v 1) (.c (.str "abcdefghijklmnopqrstuvwxyz")))])))] }
/-- the law's own -/
def fdLawName : FD := { np := 1, ns := 2, md := [false], body := [.ite (.or (.not (.isi (.v 0) [.str])) (.not (.chain .le .le (.c (.int 1)) (.blt .len [.v 0]) (.c (.int 8))))) [.ret (.c (.bool false))] [],
    .ret (.blt .all [.lc [1] (.n 1) (.ex (.v 0)) [] (.cmp .isin (.v 1) (.c (.str "abcdefghijklmnopqrstuvwxyz")))])] }
section
variable {W k i : Nat} {T : List FD}
theorem signs_lc {en : En} {s : Str} (h : s.length ≤ 8) : lcE [false] en [1] (.n 1) [] (.cmp .isin (.v 1) (.c (.str "abcdefghijklmnopqrstuvwxyz"))) (chs s) [.val (.str s), .un]
    = .ok (.fr (.list ((chs s).map fun d => .bool (isSign d)))) [.val (.str s), .un] := by
  refine lc_map (ρ0 := [.val (.str s), .un]) _ rfl (by rw [chs_len]; simp; omega) rfl rfl fun d hd => ?_
  obtain ⟨c, hc, rfl⟩ := List.mem_map.mp hd
  exact ⟨[.val (.str s), .val (.str ⟨#[c]⟩)], by simp, [.val (.str s), .val (.str ⟨#[c]⟩)], by simp -implicitDefEqProofs [isSign, signs], by simp⟩
theorem signs_bs (s : Str) : boolsOf ((chs s).map fun d => .bool (isSign d)) = some ((chs s).map isSign) := boolsOf_map isSign _
theorem isName_s {s : Str} (h : T[i]? = some fdIsName) (hs : s.length ≤ 16777216) : callF W T (k + 1) i [.val (.str s)] = .ok (.val (.bool (nm s))) [.val (.str s)] := by
  rw [callF_eq h rfl]
  by_cases c : 1 ≤ s.length
  · have c1 : (1 : Int) ≤ (s.length : Int) := by omega
    by_cases c' : s.length ≤ 8
    · have l := signs_lc (en := enK W T k .stuck) c'
      have c2 : (s.length : Int) ≤ 8 := by omega
      simp -implicitDefEqProofs [fdIsName, isTy, hs, c, c', c1, c2, l, signs_bs, nm]
    · have c2 : ¬ (s.length : Int) ≤ 8 := by omega
      simp -implicitDefEqProofs [fdIsName, isTy, hs, c, c', c1, c2, nm]
  · have c1 : ¬ (1 : Int) ≤ (s.length : Int) := by omega
    simp -implicitDefEqProofs [fdIsName, isTy, hs, c, c1, nm]
theorem lawName_s {s : Str} (h : T[i]? = some fdLawName) (hs : s.length ≤ 16777216) : callF W T (k + 1) i [.val (.str s)] = .ok (.val (.bool (nm s))) [.val (.str s)] := by
  rw [callF_eq h rfl]
  by_cases c : 1 ≤ s.length
  · have c1 : (1 : Int) ≤ (s.length : Int) := by omega
    by_cases c' : s.length ≤ 8
    · have l := signs_lc (en := enK W T k .stuck) c'
      have c2 : (s.length : Int) ≤ 8 := by omega
      simp -implicitDefEqProofs [fdLawName, isTy, hs, c, c', c1, c2, l, signs_bs, nm]
    · have c2 : ¬ (s.length : Int) ≤ 8 := by omega
      simp -implicitDefEqProofs [fdLawName, isTy, hs, c, c', c1, c2, nm]
  · have c1 : ¬ (1 : Int) ≤ (s.length : Int) := by omega
    simp -implicitDefEqProofs [fdLawName, isTy, hs, c, c1, nm]
theorem isName_o {d : PyData} (h : T[i]? = some fdIsName) (hd : isTy d .str = false) : callF W T (k + 1) i [.val d] = .ok (.val (.bool false)) [.val d] := by
  rw [callF_eq h rfl]
  simp -implicitDefEqProofs [fdIsName, hd]
theorem lawName_o {d : PyData} (h : T[i]? = some fdLawName) (hd : isTy d .str = false) : callF W T (k + 1) i [.val d] = .ok (.val (.bool false)) [.val d] := by
  rw [callF_eq h rfl]
  simp -implicitDefEqProofs [fdLawName, hd]
/-! ### things: kinds, and what is none within -/
inductive Th where
  | a (s : Str) | o (d : PyData) | f (l r : Th)
def Th.d : Th → PyData
  | .a s => .str s
  | .o d => d
  | .f l r => .tuple [l.d, r.d]
def is2 : PyData → Bool
  | .tuple l => l.length == 2
  | _ => false
/-- no kind, and no pair -/
def NoKind (d : PyData) : Prop := is2 d = false ∧ ∀ s, d = .str s → nm s = false ∧ s.length ≤ 16777216
def Th.ok : Th → Prop
  | .a s => nm s = true
  | .o d => NoKind d
  | .f l r => l.ok ∧ r.ok
def Th.h : Th → Nat
  | .f l r => max l.h r.h + 1
  | _ => 0
/-- its atoms, its depth -/
def deep2 : Option (Nat × Nat) → Option (Nat × Nat) → Option (Nat × Nat)
  | some (n, h), some (n', h') => some (n + n', max h h' + 1)
  | _, _ => none
def Th.deep : Th → Option (Nat × Nat)
  | .a _ => some (1, 0)
  | .o _ => none
  | .f l r => deep2 l.deep r.deep
def Th.at : Th → Nat → Int
  | .a _, _ => 1
  | .o _, _ => -1
  | .f _ _, 0 => -1
  | .f l r, m + 1 => if l.at m < 0 ∨ r.at m < 0 then -1 else l.at m + r.at m
def atOf (m : Nat) : Option (Nat × Nat) → Int
  | some (n, h) => if h ≤ m then n else -1
  | none => -1
theorem Th.deep_pos : ∀ {t : Th} {n h : Nat}, t.deep = some (n, h) → 1 ≤ n
  | .a _, n, h, e => by cases e; exact Nat.le_refl _
  | .f l r, n, h, e => by
    have e : deep2 l.deep r.deep = some (n, h) := e
    cases el : l.deep with
    | none => rw [el] at e; cases e
    | some p =>
      cases er : r.deep with
      | none => rw [el, er] at e; cases e
      | some q =>
        rw [el, er] at e
        cases e
        exact Nat.le_trans (Th.deep_pos el) (Nat.le_add_right _ _)
theorem Th.at_eq : ∀ (t : Th) (m : Nat), t.at m = atOf m t.deep
  | .a _, m => by
    show (1 : Int) = if 0 ≤ m then ((1 : Nat) : Int) else -1
    rw [if_pos (Nat.zero_le _)]
    rfl
  | .o _, m => rfl
  | .f l r, 0 => by
    show (-1 : Int) = atOf 0 (deep2 l.deep r.deep)
    cases el : l.deep with
    | none => rfl
    | some p =>
      cases er : r.deep with
      | none => rfl
      | some q => rfl
  | .f l r, m + 1 => by
    show (if l.at m < 0 ∨ r.at m < 0 then (-1 : Int) else l.at m + r.at m) = atOf (m + 1) (deep2 l.deep r.deep)
    rw [l.at_eq m, r.at_eq m]
    cases el : l.deep with
    | none => rfl
    | some p =>
      have p0 := Th.deep_pos el
      cases er : r.deep with
      | none =>
        show (if atOf m (some p) < 0 ∨ (-1 : Int) < 0 then (-1 : Int) else _) = -1
        rw [if_pos (.inr (by decide))]
      | some q =>
        have q0 := Th.deep_pos er
        show (if (if p.2 ≤ m then (p.1 : Int) else -1) < 0 ∨ (if q.2 ≤ m then (q.1 : Int) else -1) < 0 then (-1 : Int) else (if p.2 ≤ m then (p.1 : Int) else -1) + (if q.2 ≤ m then (q.1 : Int) else -1)) = if max p.2 q.2 + 1 ≤ m + 1 then ((p.1 + q.1 : Nat) : Int) else -1
        repeat split
        all_goals omega
/-- is it a kind -/
def kOf : Option (Nat × Nat) → Bool
  | some (n, h) => decide (n ≤ 30 ∧ h ≤ 15)
  | none => false
def Th.kd (t : Th) : Bool := kOf t.deep
theorem Th.at_k (t : Th) : (if 1 ≤ t.at 15 then decide (t.at 15 ≤ 30) else false) = t.kd := by
  rw [t.at_eq]
  unfold Th.kd
  cases e : t.deep with
  | none => rfl
  | some p =>
    have := Th.deep_pos e
    show (if 1 ≤ (if p.2 ≤ 15 then (p.1 : Int) else -1) then decide ((if p.2 ≤ 15 then (p.1 : Int) else -1) ≤ 30) else false) = decide (p.1 ≤ 30 ∧ p.2 ≤ 15)
    by_cases c : p.2 ≤ 15
    · rw [if_pos c, if_pos (by omega)]
      exact decide_eq_decide.mpr (by omega)
    · rw [if_neg c, if_neg (by decide)]
      exact (decide_eq_false (by omega)).symm
def fdIsTuple : FD := { np := 3, ns := 3, md := [false, false, false], body := [.ret (.and (.isi (.v 0) [.tuple]) (.chain .le .le (.v 1) (.blt .len [.v 0]) (.v 2)))] }
theorem isTuple {d : PyData} (h : T[i]? = some fdIsTuple) : callF W T (k + 1) i [.val d, .val (.int 2), .val (.int 2)] = .ok (.val (.bool (is2 d))) [.val d, .val (.int 2), .val (.int 2)] := by
  rw [callF_eq h rfl]
  cases d with
  | tuple l =>
    by_cases c : l.length = 2
    · simp -implicitDefEqProofs [fdIsTuple, isTy, is2, c]
    · by_cases c2 : (2 : Int) ≤ l.length
      · have c3 : ¬ (l.length : Int) ≤ 2 := by omega
        simp -implicitDefEqProofs [fdIsTuple, isTy, is2, c, c2, c3]
      · simp -implicitDefEqProofs [fdIsTuple, isTy, is2, c, c2]
  | _ => simp -implicitDefEqProofs [fdIsTuple, isTy, is2]
/-- own: its own number, n: is_name's, t: is_tuple's -/
def fdAtoms (own n t : Nat) : FD := { np := 2, ns := 5, md := [false, false], body := [.ite (.call n [.v 0]) [.ret (.c (.int 1))] [],
    .ite (.or (.cmp .eq (.v 1) (.c (.int 0))) (.not (.call t [.v 0, .c (.int 2), .c (.int 2)]))) [.ret (.neg (.c (.int 1)))] [],
    .unpack [2, 3] (.lc [4] (.n 4) (.ex (.v 0)) [] (.call own [.v 4, .bin .sub (.v 1) (.c (.int 1))])),
    .ret (.ite (.or (.cmp .lt (.v 2) (.c (.int 0))) (.cmp .lt (.v 3) (.c (.int 0)))) (.neg (.c (.int 1))) (.bin .add (.v 2) (.v 3)))] }
theorem name_oth {d : PyData} (h : T[i]? = some fdIsName) (o : NoKind d) : callF W T (k + 1) i [.val d] = .ok (.val (.bool false)) [.val d] := by
  cases d with
  | str s =>
    have := o.2 s rfl
    rw [isName_s h this.2, this.1]
  | _ => exact isName_o h rfl
theorem lawName_oth {d : PyData} (h : T[i]? = some fdLawName) (o : NoKind d) : callF W T (k + 1) i [.val d] = .ok (.val (.bool false)) [.val d] := by
  cases d with
  | str s =>
    have := o.2 s rfl
    rw [lawName_s h this.2, this.1]
  | _ => exact lawName_o h rfl
theorem name_atom {s : Str} (h : T[i]? = some fdIsName) (o : nm s = true) : callF W T (k + 1) i [.val (.str s)] = .ok (.val (.bool true)) [.val (.str s)] := by
  rw [isName_s h (by have := nm_len o; omega), o]
theorem lawName_atom {s : Str} (h : T[i]? = some fdLawName) (o : nm s = true) : callF W T (k + 1) i [.val (.str s)] = .ok (.val (.bool true)) [.val (.str s)] := by
  rw [lawName_s h (by have := nm_len o; omega), o]
theorem atoms {n tu : Nat} (h : T[i]? = some (fdAtoms i n tu)) (hn : T[n]? = some fdIsName) (ht : T[tu]? = some fdIsTuple) : ∀ (t : Th), t.ok → ∀ (m k : Nat), m + 2 ≤ k → callF W T k i [.val t.d, .val (.int m)] = .ok (.val (.int (t.at m))) [.val t.d, .val (.int m)]
  | .a s, ho, m, k, hk => by
    obtain ⟨k, rfl⟩ : ∃ j, k = j + 2 := ⟨k - 2, by omega⟩
    rw [callF_eq h rfl]
    simp -implicitDefEqProofs [fdAtoms, Th.d, Th.at, hn, fdIsName, name_atom hn ho]
  | .o d, ho, m, k, hk => by
    obtain ⟨k, rfl⟩ : ∃ j, k = j + 2 := ⟨k - 2, by omega⟩
    have e := isTuple (W := W) (k := k) (d := d) ht
    rw [ho.1] at e
    rw [callF_eq h rfl]
    by_cases c : m = 0
    · simp -implicitDefEqProofs [fdAtoms, Th.d, Th.at, hn, fdIsName, name_oth hn ho, c]
    · simp -implicitDefEqProofs [fdAtoms, Th.d, Th.at, hn, ht, fdIsName, fdIsTuple, name_oth hn ho, e, c]
  | .f l r, ho, 0, k, hk => by
    obtain ⟨k, rfl⟩ : ∃ j, k = j + 2 := ⟨k - 2, by omega⟩
    have q := isName_o (W := W) (k := k) (d := .tuple [l.d, r.d]) hn rfl
    rw [callF_eq h rfl]
    simp -implicitDefEqProofs [fdAtoms, Th.d, Th.at, hn, fdIsName, q]
  | .f l r, ho, m + 1, k, hk => by
    obtain ⟨k, rfl⟩ : ∃ j, k = j + 2 := ⟨k - 2, by omega⟩
    have e : ((m + 1 : Nat) : Int) - 1 = (m : Int) := by omega
    have e0 : ¬ ((m + 1 : Nat) : Int) = 0 := by omega
    have il := atoms h hn ht l ho.1 m (k + 1) (by omega)
    have ir := atoms h hn ht r ho.2 m (k + 1) (by omega)
    have q := isName_o (W := W) (k := k) (d := .tuple [l.d, r.d]) hn rfl
    have q2 := isTuple (W := W) (k := k) (d := .tuple [l.d, r.d]) ht
    have q3 : is2 (.tuple [l.d, r.d]) = true := rfl
    rw [q3] at q2
    show callF W T (k + 2) i [.val (.tuple [l.d, r.d]), .val (.int ((m + 1 : Nat) : Int))] = .ok (.val (.int (if l.at m < 0 ∨ r.at m < 0 then -1 else l.at m + r.at m))) [.val (.tuple [l.d, r.d]), .val (.int ((m + 1 : Nat) : Int))]
    generalize ((m + 1 : Nat) : Int) = mi at e e0
    rw [callF_eq h rfl]
    by_cases c1 : l.at m < 0
    · simp -implicitDefEqProofs [fdAtoms, h, hn, ht, fdIsName, fdIsTuple, q, q2, e0, lcE, compL, e, il, ir, c1]
    · by_cases c2 : r.at m < 0
      · simp -implicitDefEqProofs [fdAtoms, h, hn, ht, fdIsName, fdIsTuple, q, q2, e0, lcE, compL, e, il, ir, c1, c2]
      · simp -implicitDefEqProofs [fdAtoms, h, hn, ht, fdIsName, fdIsTuple, q, q2, e0, lcE, compL, e, il, ir, c1, c2]
def fdIsKind (a : Nat) : FD := { np := 1, ns := 1, md := [false], body := [.ret (.chain .le .le (.c (.int 1)) (.call a [.v 0, .c (.int 15)]) (.c (.int 30)))] }
theorem isKind {a n tu : Nat} (h : T[i]? = some (fdIsKind a)) (ha : T[a]? = some (fdAtoms a n tu)) (hn : T[n]? = some fdIsName) (ht : T[tu]? = some fdIsTuple) {t : Th} (ho : t.ok) (hk : 18 ≤ k) : callF W T k i [.val t.d] = .ok (.val (.bool t.kd)) [.val t.d] := by
  obtain ⟨k, rfl⟩ : ∃ j, k = j + 1 := ⟨k - 1, by omega⟩
  have e := atoms (W := W) ha hn ht t ho 15 k (by omega)
  have e : callF W T k a [.val t.d, .val (.int 15)] = _ := e
  rw [callF_eq h rfl, ← t.at_k]
  by_cases c : 1 ≤ t.at 15
  · simp -implicitDefEqProofs [fdIsKind, ha, fdAtoms, e, c]
  · simp -implicitDefEqProofs [fdIsKind, ha, fdAtoms, e, c]
/-- the law's own: n its name's number -/
def fdDeepOf (own n : Nat) : FD := { np := 1, ns := 3, md := [false], body := [.ite (.call n [.v 0]) [.ret (.tup [.c (.int 1), .c (.int 0)])] [],
    .ite (.or (.not (.isi (.v 0) [.tuple])) (.cmp .ne (.blt .len [.v 0]) (.c (.int 2)))) [.ret (.c .none)] [],
    .par 1 2 (.call own [.idx (.v 0) (.c (.int 0))]) (.call own [.idx (.v 0) (.c (.int 1))]),
    .ite (.or (.cmp .is (.v 1) (.c .none)) (.cmp .is (.v 2) (.c .none))) [.ret (.c .none)] [],
    .ret (.tup [.bin .add (.idx (.v 1) (.c (.int 0))) (.idx (.v 2) (.c (.int 0))), .bin .add (.c (.int 1)) (.blt .max [.idx (.v 1) (.c (.int 1)), .idx (.v 2) (.c (.int 1))])])] }
def deepD : Option (Nat × Nat) → PyData
  | some (n, h) => .tuple [.int n, .int h]
  | none => .none
theorem deepOf {n : Nat} (h : T[i]? = some (fdDeepOf i n)) (hn : T[n]? = some fdLawName) : ∀ (t : Th), t.ok → ∀ k, t.h + 2 ≤ k → callF W T k i [.val t.d] = .ok (.val (deepD t.deep)) [.val t.d]
  | .a s, ho, k, hk => by
    obtain ⟨k, rfl⟩ : ∃ j, k = j + 2 := ⟨k - 2, by omega⟩
    rw [callF_eq h rfl]
    simp -implicitDefEqProofs [fdDeepOf, Th.d, Th.deep, deepD, hn, fdLawName, lawName_atom hn ho]
  | .o d, ho, k, hk => by
    obtain ⟨k, rfl⟩ : ∃ j, k = j + 2 := ⟨k - 2, by omega⟩
    have e := lawName_oth (W := W) (k := k) hn ho
    have z := ho.1
    rw [callF_eq h rfl]
    cases d with
    | tuple l =>
      have z : ¬ l.length = 2 := by simpa [is2] using z
      have z2 : ¬ (l.length : Int) = 2 := by omega
      simp -implicitDefEqProofs [fdDeepOf, Th.d, Th.deep, deepD, hn, fdLawName, e, isTy, z2]
    | _ => simp -implicitDefEqProofs [fdDeepOf, Th.d, Th.deep, deepD, hn, fdLawName, e, isTy]
  | .f l r, ho, k, hk => by
    have hk : max l.h r.h + 1 + 2 ≤ k := hk
    obtain ⟨k, rfl⟩ : ∃ j, k = j + 2 := ⟨k - 2, by omega⟩
    have q := lawName_o (W := W) (k := k) (d := .tuple [l.d, r.d]) hn rfl
    have il := deepOf h hn l ho.1 (k + 1) (by omega)
    have ir := deepOf h hn r ho.2 (k + 1) (by omega)
    show callF W T (k + 2) i [.val (.tuple [l.d, r.d])] = .ok (.val (deepD (deep2 l.deep r.deep))) [.val (.tuple [l.d, r.d])]
    rw [callF_eq h rfl]
    cases el : l.deep with
    | none =>
      rw [el] at il
      simp -implicitDefEqProofs [fdDeepOf, deepD, deep2, h, hn, fdLawName, q, isTy, il, ir, isNone]
    | some p =>
      rw [el] at il
      cases er : r.deep with
      | none =>
        rw [er] at ir
        simp -implicitDefEqProofs [fdDeepOf, deepD, deep2, h, hn, fdLawName, q, isTy, il, ir, isNone]
      | some p' =>
        rw [er] at ir
        have m : (1 : Int) + (if (p'.2 : Int) > p.2 then (p'.2 : Int) else p.2) = ((max p.2 p'.2 + 1 : Nat) : Int) := by omega
        simp -implicitDefEqProofs [fdDeepOf, deepD, deep2, h, hn, fdLawName, q, isTy, il, ir, isNone]
        omega
def fdLawKind (d : Nat) : FD := { np := 1, ns := 2, md := [false], body := [.set 1 (.call d [.v 0]),
    .ret (.and (.cmp .isnot (.v 1) (.c .none)) (.and (.cmp .le (.idx (.v 1) (.c (.int 0))) (.c (.int 30))) (.cmp .le (.idx (.v 1) (.c (.int 1))) (.c (.int 15)))))] }
theorem lawKind {d n : Nat} (h : T[i]? = some (fdLawKind d)) (hd : T[d]? = some (fdDeepOf d n)) (hn : T[n]? = some fdLawName) {t : Th} (ho : t.ok) (hk : t.h + 3 ≤ k) : callF W T k i [.val t.d] = .ok (.val (.bool t.kd)) [.val t.d] := by
  obtain ⟨k, rfl⟩ : ∃ j, k = j + 1 := ⟨k - 1, by omega⟩
  have e := deepOf (W := W) hd hn t ho k (by omega)
  rw [callF_eq h rfl]
  unfold Th.kd
  cases el : t.deep with
  | none =>
    rw [el] at e
    simp -implicitDefEqProofs [fdLawKind, hd, fdDeepOf, e, deepD, isNone, kOf]
  | some p =>
    rw [el] at e
    by_cases c : p.1 ≤ 30
    · have c1 : (p.1 : Int) ≤ 30 := by omega
      simp -implicitDefEqProofs [fdLawKind, hd, fdDeepOf, e, deepD, isNone, kOf, c, c1]
      omega
    · have c1 : ¬ (p.1 : Int) ≤ 30 := by omega
      simp -implicitDefEqProofs [fdLawKind, hd, fdDeepOf, e, deepD, isNone, kOf, c, c1]
end
end Dn
/-! Den21: .. parts, ends, refusals; what laws draw with -/
namespace Dn
open PySem
def Th.ps : Th → List Th
  | .f l r => l :: r.ps
  | _ => []
def Th.e : Th → PyData
  | .a s => .str s
  | .o d => d
  | .f _ r => r.e
theorem Th.ps_h : ∀ t : Th, t.ps.length ≤ t.h
  | .a _ => Nat.le_refl _
  | .o _ => Nat.le_refl _
  | .f l r => by
    have := r.ps_h
    show r.ps.length + 1 ≤ max l.h r.h + 1
    omega
/-- a kind ends at an atom -/
theorem Th.deep_r {l r : Th} {p : Nat × Nat} (h : (Th.f l r).deep = some p) : (∃ a, l.deep = some a) ∧ ∃ b, r.deep = some b := by
  have e : deep2 l.deep r.deep = some p := h
  cases el : l.deep with
  | none => rw [el] at e; cases e
  | some a =>
    cases er : r.deep with
    | none => rw [el, er] at e; cases e
    | some b => exact ⟨⟨a, rfl⟩, b, rfl⟩
theorem Th.deep_h : ∀ {t : Th} {n h : Nat}, t.deep = some (n, h) → t.h = h
  | .a _, n, h, e => by cases e; rfl
  | .f l r, n, h, e => by
    have e : deep2 l.deep r.deep = some (n, h) := e
    cases el : l.deep with
    | none => rw [el] at e; cases e
    | some p =>
      cases er : r.deep with
      | none => rw [el, er] at e; cases e
      | some q =>
        have a := Th.deep_h el
        have b := Th.deep_h er
        rw [el, er] at e
        cases e
        show max l.h r.h + 1 = _
        rw [a, b]
theorem Th.kd_of {t : Th} (h : t.kd = true) : ∃ n, t.deep = some (n, t.h) ∧ n ≤ 30 ∧ t.h ≤ 15 := by
  unfold Th.kd at h
  cases e : t.deep with
  | none => rw [e] at h; cases h
  | some p =>
    rw [e] at h
    have h : decide (p.1 ≤ 30 ∧ p.2 ≤ 15) = true := h
    have h := of_decide_eq_true h
    have z := Th.deep_h (n := p.1) (h := p.2) e
    exact ⟨p.1, by rw [z], h.1, by omega⟩
def fdIsAtom : FD := { np := 1, ns := 1, md := [false], body := [.ret (.isi (.v 0) [.str])] }
def fdPartsOf (a : Nat) : FD := { np := 1, ns := 2, md := [false], body := [.set 1 (.lst []),
    .while (.not (.call a [.v 0])) [.app 1 (.idx (.v 0) (.c (.int 0))),
    .set 0 (.idx (.v 0) (.c (.int 1)))],
    .ret (.blt .tuple [.v 1])] }
def fdEndOf (a : Nat) : FD := { np := 1, ns := 1, md := [false], body := [.while (.not (.call a [.v 0])) [.set 0 (.idx (.v 0) (.c (.int 1)))],
    .ret (.v 0)] }
/-- q: is_kind's number -/
def fdCheckKind (q : Nat) : FD := { np := 1, ns := 1, md := [false], body := [.ite (.not (.call q [.v 0])) [.raise0 0] []] }
def fdParts (c p : Nat) : FD := { np := 1, ns := 1, md := [false], body := [.expr (.call c [.v 0]),
    .ret (.call p [.v 0])] }
section
variable {W k i : Nat} {T : List FD}
theorem isAtom {d : PyData} (h : T[i]? = some fdIsAtom) : callF W T (k + 1) i [.val d] = .ok (.val (.bool (isTy d .str))) [.val d] := by
  rw [callF_eq h rfl]
  simp -implicitDefEqProofs [fdIsAtom]
theorem loopP {a : Nat} (ha : T[a]? = some fdIsAtom) : ∀ (t : Th) (n : Nat) (acc : List PyData), (∃ p, t.deep = some p) → t.ps.length < n → acc.length + t.ps.length ≤ 1000 →
    whileE W [false] (enK W T (k + 1) .stuck) (.not (.call a [.v 0])) [.app 1 (.idx (.v 0) (.c (.int 0))), .set 0 (.idx (.v 0) (.c (.int 1)))] n [.val t.d, .own (.list acc)] = .ok .nx [.val t.e, .own (.list (acc ++ t.ps.map Th.d))]
  | .a s, n, acc, _, h, h2 => by
    obtain ⟨n, rfl⟩ : ∃ j, n = j + 1 := ⟨n - 1, by omega⟩
    have e := isAtom (W := W) (k := k) (d := .str s) ha
    rw [whileE_succ]
    simp -implicitDefEqProofs [Th.d, Th.e, Th.ps, ha, fdIsAtom, e, isTy]
  | .f l r, n, acc, hd, h, h2 => by
    obtain ⟨p, hd⟩ := hd
    have h : r.ps.length + 1 < n := h
    have h2 : acc.length + (r.ps.length + 1) ≤ 1000 := h2
    obtain ⟨n, rfl⟩ : ∃ j, n = j + 1 := ⟨n - 1, by omega⟩
    have a1 : acc.length < 16777216 := by omega
    have e := isAtom (W := W) (k := k) (d := .tuple [l.d, r.d]) ha
    rw [whileE_succ]
    simp -implicitDefEqProofs [Th.d, Th.e, Th.ps, ha, fdIsAtom, e, isTy, a1]
    have := loopP ha r n (acc ++ [l.d]) (Th.deep_r hd).2 (by omega) (by simp; omega)
    try simp at this
    exact this
theorem loopE {a : Nat} (ha : T[a]? = some fdIsAtom) : ∀ (t : Th) (n : Nat), (∃ p, t.deep = some p) → t.ps.length < n →
    whileE W [false] (enK W T (k + 1) .stuck) (.not (.call a [.v 0])) [.set 0 (.idx (.v 0) (.c (.int 1)))] n [.val t.d] = .ok .nx [.val t.e]
  | .a s, n, _, h => by
    obtain ⟨n, rfl⟩ : ∃ j, n = j + 1 := ⟨n - 1, by omega⟩
    have e := isAtom (W := W) (k := k) (d := .str s) ha
    rw [whileE_succ]
    simp -implicitDefEqProofs [Th.d, Th.e, Th.ps, ha, fdIsAtom, e, isTy]
  | .f l r, n, hd, h => by
    obtain ⟨p, hd⟩ := hd
    have h : r.ps.length + 1 < n := h
    obtain ⟨n, rfl⟩ : ∃ j, n = j + 1 := ⟨n - 1, by omega⟩
    have e := isAtom (W := W) (k := k) (d := .tuple [l.d, r.d]) ha
    rw [whileE_succ]
    simp -implicitDefEqProofs [Th.d, Th.e, Th.ps, ha, fdIsAtom, e, isTy]
    have := loopE ha r n (Th.deep_r hd).2 (by omega)
    try simp at this
    exact this
theorem partsOf {a : Nat} {t : Th} (h : T[i]? = some (fdPartsOf a)) (ha : T[a]? = some fdIsAtom) (hd : ∃ p, t.deep = some p) (hh : t.h ≤ 60) (hW : 100 ≤ W) (hk : 2 ≤ k) : callF W T k i [.val t.d] = .ok (.val (.tuple (t.ps.map Th.d))) [.val t.e] := by
  obtain ⟨k, rfl⟩ : ∃ j, k = j + 2 := ⟨k - 2, by omega⟩
  have := t.ps_h
  have l := loopP (W := W) (k := k) ha t W [] hd (by omega) (by simp; omega)
  try simp at l
  rw [callF_eq h rfl]
  simp -implicitDefEqProofs [fdPartsOf, l]
theorem endOf {a : Nat} {t : Th} (h : T[i]? = some (fdEndOf a)) (ha : T[a]? = some fdIsAtom) (hd : ∃ p, t.deep = some p) (hh : t.h ≤ 60) (hW : 100 ≤ W) (hk : 2 ≤ k) : callF W T k i [.val t.d] = .ok (.val t.e) [.val t.e] := by
  obtain ⟨k, rfl⟩ : ∃ j, k = j + 2 := ⟨k - 2, by omega⟩
  have := t.ps_h
  have l := loopE (W := W) (k := k) ha t W hd (by omega)
  try simp at l
  rw [callF_eq h rfl]
  simp -implicitDefEqProofs [fdEndOf, l]
/-- is_kind stands at q, and what it needs -/
structure HasKind (T : List FD) (q : Nat) : Prop where
  ex : ∃ a n tu, T[q]? = some (fdIsKind a) ∧ T[a]? = some (fdAtoms a n tu) ∧ T[n]? = some fdIsName ∧ T[tu]? = some fdIsTuple
theorem HasKind.at {q : Nat} (H : HasKind T q) {t : Th} (ho : t.ok) (hk : 18 ≤ k) : callF W T k q [.val t.d] = .ok (.val (.bool t.kd)) [.val t.d] := by
  obtain ⟨a, n, tu, h1, h2, h3, h4⟩ := H.ex
  exact isKind h1 h2 h3 h4 ho hk
theorem HasKind.md {q : Nat} (H : HasKind T q) : ∃ fd, T[q]? = some fd ∧ fd.md = [false] := by
  obtain ⟨a, n, tu, h1, h2, h3, h4⟩ := H.ex
  exact ⟨_, h1, rfl⟩
theorem checkKind {q : Nat} {t : Th} (h : T[i]? = some (fdCheckKind q)) (H : HasKind T q) (ho : t.ok) (hk : 19 ≤ k) : callF W T k i [.val t.d] = if t.kd = true then .ok (.val .none) [.val t.d] else .exc ⟨0, .none⟩ [.val t.d] := by
  obtain ⟨k, rfl⟩ : ∃ j, k = j + 1 := ⟨k - 1, by omega⟩
  have e := H.at (W := W) ho (show 18 ≤ k by omega)
  obtain ⟨fd, hq, hm⟩ := H.md
  rw [callF_eq h rfl]
  cases c : t.kd with
  | true =>
    rw [c] at e
    simp -implicitDefEqProofs [fdCheckKind, hq, hm, e]
  | false =>
    rw [c] at e
    simp -implicitDefEqProofs [fdCheckKind, hq, hm, e]
theorem parts {q c p a : Nat} {t : Th} (h : T[i]? = some (fdParts c p)) (hc : T[c]? = some (fdCheckKind q)) (hp : T[p]? = some (fdPartsOf a)) (ha : T[a]? = some fdIsAtom) (H : HasKind T q) (ho : t.ok) (hW : 100 ≤ W) (hk : 20 ≤ k) :
    callF W T k i [.val t.d] = if t.kd = true then .ok (.val (.tuple (t.ps.map Th.d))) [.val t.d] else .exc ⟨0, .none⟩ [.val t.d] := by
  obtain ⟨k, rfl⟩ : ∃ j, k = j + 1 := ⟨k - 1, by omega⟩
  have e := checkKind (W := W) hc H ho (show 19 ≤ k by omega)
  rw [callF_eq h rfl]
  cases z : t.kd with
  | true =>
    obtain ⟨n, d, _, hh⟩ := Th.kd_of z
    rw [z] at e
    have e2 := partsOf (W := W) (k := k) hp ha ⟨_, d⟩ (by omega) hW (by omega)
    simp -implicitDefEqProofs at e
    simp -implicitDefEqProofs [fdParts, hc, fdCheckKind, hp, fdPartsOf, e, e2]
  | false =>
    rw [z] at e
    simp -implicitDefEqProofs at e
    simp -implicitDefEqProofs [fdParts, hc, fdCheckKind, e]
theorem ends {q c p a : Nat} {t : Th} (h : T[i]? = some (fdParts c p)) (hc : T[c]? = some (fdCheckKind q)) (hp : T[p]? = some (fdEndOf a)) (ha : T[a]? = some fdIsAtom) (H : HasKind T q) (ho : t.ok) (hW : 100 ≤ W) (hk : 20 ≤ k) :
    callF W T k i [.val t.d] = if t.kd = true then .ok (.val t.e) [.val t.d] else .exc ⟨0, .none⟩ [.val t.d] := by
  obtain ⟨k, rfl⟩ : ∃ j, k = j + 1 := ⟨k - 1, by omega⟩
  have e := checkKind (W := W) hc H ho (show 19 ≤ k by omega)
  rw [callF_eq h rfl]
  cases z : t.kd with
  | true =>
    obtain ⟨n, d, _, hh⟩ := Th.kd_of z
    rw [z] at e
    have e2 := endOf (W := W) (k := k) hp ha ⟨_, d⟩ (by omega) hW (by omega)
    simp -implicitDefEqProofs at e
    simp -implicitDefEqProofs [fdParts, hc, fdCheckKind, hp, fdEndOf, e, e2]
  | false =>
    rw [z] at e
    simp -implicitDefEqProofs at e
    simp -implicitDefEqProofs [fdParts, hc, fdCheckKind, e]
end
end Dn
/-! Den22: what the laws k01 .. k06 draw with and tell with -/
namespace Dn.K0
open PySem Dn
def fdHand : FD := { np := 1, ns := 3, md := [false], body := [.set 1 (.lc [2] (.n 2) (.ex (.sl (.v 0) .non (.ex (.c (.int 63))))) [] (.blt .abs [.blt .int [.v 2]])),
    .ret (.lst [.v 1, .c (.int 0), .c (.int 0), .bin .add (.c (.int 433)) (.bin .mul (.c (.int 42)) (.blt .len [.v 1])), .c (.int 0)])] }
def fdDraw : FD := { np := 2, ns := 5, md := [true, false], body := [.ite (.and (.cmp .eq (.idx (.v 0) (.c (.int 2))) (.c (.int 0))) (.cmp .lt (.idx (.v 0) (.c (.int 1))) (.blt .len [.idx (.v 0) (.c (.int 0))]))) [.set 2 (.idx (.idx (.v 0) (.c (.int 0))) (.idx (.v 0) (.c (.int 1)))),
    .put 0 (.c (.int 1)) (.bin .add (.idx (.v 0) (.c (.int 1))) (.c (.int 1))),
    .put 0 (.c (.int 3)) (.bin .mod (.blt .int [.bin .add (.bin .add (.bin .mul (.idx (.v 0) (.c (.int 3))) (.c (.int 69621))) (.v 2)) (.c (.int 103))]) (.c (.int 2147483629))),
    .ite (.cmp .ge (.v 2) (.bin .pow (.c (.int 10)) (.c (.int 18)))) [.put 0 (.c (.int 2)) (.v 2)] []] [],
    .ite (.cmp .gt (.idx (.v 0) (.c (.int 2))) (.c (.int 0))) [.set 3 (.bin .mod (.blt .int [.idx (.v 0) (.c (.int 2))]) (.v 1)),
    .put 0 (.c (.int 2)) (.bin .fdiv (.idx (.v 0) (.c (.int 2))) (.v 1)),
    .ret (.v 3)] [],
    .put 0 (.c (.int 4)) (.bin .add (.idx (.v 0) (.c (.int 4))) (.c (.int 1))),
    .set 4 (.bin .mod (.blt .int [.bin .mul (.blt .int [.bin .add (.idx (.v 0) (.c (.int 3))) (.bin .mul (.c (.int 7919)) (.idx (.v 0) (.c (.int 4))))]) (.c (.int 48271))]) (.c (.int 2147483647))),
    .set 4 (.bin .mod (.blt .int [.bin .mul (.v 4) (.bin .add (.bin .fdiv (.v 4) (.c (.int 1009))) (.c (.int 69621)))]) (.c (.int 2147483647))),
    .set 4 (.bin .mod (.blt .int [.bin .mul (.v 4) (.bin .add (.bin .fdiv (.v 4) (.c (.int 2003))) (.c (.int 40692)))]) (.c (.int 2147483399))),
    .ret (.bin .mod (.blt .int [.bin .fdiv (.v 4) (.c (.int 16))]) (.v 1))] }
def fdSome (dr : Nat) : FD := { np := 2, ns := 2, md := [true, false], body := [.ret (.idx (.v 1) (.call dr [.v 0, .blt .len [.v 1]]))] }
def fdIs (own : Nat) : FD := { np := 2, ns := 3, md := [false, false], body := [.ite (.isi (.v 1) [.tuple, .list]) [.ite (.or (.cmp .ne (.isi (.v 0) [.tuple]) (.isi (.v 1) [.tuple])) (.cmp .ne (.isi (.v 0) [.list]) (.isi (.v 1) [.list]))) [.ret (.c (.bool false))] [],
    .ite (.cmp .ne (.blt .len [.v 0]) (.blt .len [.v 1])) [.ret (.c (.bool false))] [],
    .ret (.blt .all [.lc [2] (.n 2) (.range1 (.blt .len [.v 1])) [] (.call own [.idx (.v 0) (.v 2), .idx (.v 1) (.v 2)])])] [],
    .ite (.cmp .is (.v 1) (.c .none)) [.ret (.cmp .is (.v 0) (.c .none))] [],
    .ite (.or (.cmp .ne (.isi (.v 0) [.bool]) (.isi (.v 1) [.bool])) (.cmp .ne (.isi (.v 0) [.int]) (.isi (.v 1) [.int]))) [.ret (.c (.bool false))] [],
    .ret (.and (.cmp .eq (.isi (.v 0) [.str]) (.isi (.v 1) [.str])) (.cmp .eq (.v 0) (.v 1)))] }
def fdAtom (so : Nat) : FD := { np := 1, ns := 1, md := [true], body := [.ret (.call so [.v 0, .lst [.c (.str "a"), .c (.str "a"), .c (.str "b"), .c (.str "b"), .c (.str "c"), .c (.str "d"), .c (.str "abcdefgh")]])] }
def fdKind (own dr at' : Nat) : FD := { np := 2, ns := 3, md := [true, false], body := [.ite (.cmp .lt (.v 1) (.c (.int 2))) [.ret (.call at' [.v 0])] [],
    .set 2 (.bin .add (.c (.int 1)) (.call dr [.v 0, .bin .sub (.v 1) (.c (.int 1))])),
    .set 2 (.ite (.cmp .eq (.call dr [.v 0, .c (.int 2)]) (.c (.int 0))) (.c (.int 1)) (.v 2)),
    .ret (.tup [.call own [.v 0, .v 2], .call own [.v 0, .bin .sub (.v 1) (.v 2)]])] }
def hnd (cells : List Int) (i a b c : Int) : PyData := .list [.list (cells.map .int), .int i, .int a, .int b, .int c]
theorem modN {x y : Int} (h : 0 < y) : 0 ≤ x % y ∧ x % y < y := ⟨Int.emod_nonneg _ (by omega), Int.emod_lt_of_pos _ h⟩
theorem mul1 {x b n : Int} (hn : 0 < n) (hm : n ≤ 18446744073709551616) : binD .mul (.int (x % n)) (.int b) = some (.val (.int (x % n * b))) := by
  have := modN (x := x) hn
  exact bin_mulL ⟨by omega, by omega⟩
section
variable {W k i : Nat} {T : List FD}
theorem draw0 {cells : List Int} {n a b c lim : Int} (h : T[i]? = some fdDraw) (hi : 0 ≤ n) (h0 : 0 < lim) (h1 : lim < 1073741824) : ∃ r i' a' b' c', 0 ≤ r ∧ r < lim ∧ 0 ≤ i' ∧
    callF W T (k + 1) i [.own (hnd cells n a b c), .val (.int lim)] = .ok (.val (.int r)) [.own (hnd cells i' a' b' c'), .val (.int lim)] := by
  rw [callF_eq h rfl]
  by_cases c1 : a = 0
  · by_cases c2 : n < cells.length
    · by_cases c3 : 1000000000000000000 ≤ cells[n.toNat]
      · have c4 : 0 < cells[n.toNat] := by omega
        simp -implicitDefEqProofs [fdDraw, hnd, c1, c2, c3, c4, hi, h0, h1, bin_mulR, bin_mulL, mul1]
        first | exact modN h0 | exact ⟨_, (modN h0).1, (modN h0).2, by omega, rfl⟩ | exact ⟨_, (modN h0).1, (modN h0).2, rfl⟩
      · simp -implicitDefEqProofs [fdDraw, hnd, c1, c2, c3, hi, h0, h1, bin_mulR, bin_mulL, mul1]
        first | exact modN h0 | exact ⟨_, (modN h0).1, (modN h0).2, by omega, rfl⟩ | exact ⟨_, (modN h0).1, (modN h0).2, rfl⟩
    · simp -implicitDefEqProofs [fdDraw, hnd, c1, c2, hi, h0, h1, bin_mulR, bin_mulL, mul1]
      first | exact modN h0 | exact ⟨_, (modN h0).1, (modN h0).2, by omega, rfl⟩ | exact ⟨_, (modN h0).1, (modN h0).2, rfl⟩
  · by_cases c4 : 0 < a
    · simp -implicitDefEqProofs [fdDraw, hnd, c1, c4, hi, h0, h1, bin_mulR, bin_mulL, mul1]
      first | exact modN h0 | exact ⟨_, (modN h0).1, (modN h0).2, by omega, rfl⟩ | exact ⟨_, (modN h0).1, (modN h0).2, rfl⟩
    · simp -implicitDefEqProofs [fdDraw, hnd, c1, c4, hi, h0, h1, bin_mulR, bin_mulL, mul1]
      first | exact modN h0 | exact ⟨_, (modN h0).1, (modN h0).2, by omega, rfl⟩ | exact ⟨_, (modN h0).1, (modN h0).2, rfl⟩
def Hd (h : PyData) : Prop := ∃ cells i a b c, 0 ≤ i ∧ h = hnd cells i a b c
theorem draw {h : PyData} {lim : Int} (hf : T[i]? = some fdDraw) (hh : Hd h) (h0 : 0 < lim) (h1 : lim < 1073741824) (hk : 1 ≤ k) : ∃ (r : Nat) (h' : PyData), (r : Int) < lim ∧ Hd h' ∧ callF W T k i [.own h, .val (.int lim)] = .ok (.val (.int r)) [.own h', .val (.int lim)] := by
  obtain ⟨k, rfl⟩ : ∃ j, k = j + 1 := ⟨k - 1, by omega⟩
  obtain ⟨cells, n, a, b, c, hi, rfl⟩ := hh
  obtain ⟨r, i', a', b', c', r0, r1, hi', e⟩ := draw0 (W := W) (k := k) (cells := cells) (a := a) (b := b) (c := c) hf hi h0 h1
  obtain ⟨r, rfl⟩ : ∃ n : Nat, r = (n : Int) := ⟨r.toNat, by omega⟩
  exact ⟨r, _, r1, ⟨cells, i', a', b', c', hi', rfl⟩, e⟩
/-- one of some -/
structure HasSome (T : List FD) (so : Nat) : Prop where
  ex : ∃ dr, T[so]? = some (fdSome dr) ∧ T[dr]? = some fdDraw
theorem HasSome.md {so : Nat} (H : HasSome T so) : ∃ fd, T[so]? = some fd ∧ fd.md = [true, false] := by
  obtain ⟨dr, h, _⟩ := H.ex
  exact ⟨_, h, rfl⟩
theorem some' {h : PyData} {l : List PyData} (H : HasSome T i) (hh : Hd h) (h0 : 0 < l.length) (h1 : l.length ≤ 1000) (hk : 2 ≤ k) : ∃ x h', x ∈ l ∧ Hd h' ∧ callF W T k i [.own h, .val (.list l)] = .ok (.val x) [.own h', .val (.list l)] := by
  obtain ⟨k, rfl⟩ : ∃ j, k = j + 1 := ⟨k - 1, by omega⟩
  obtain ⟨dr, hs, hd⟩ := H.ex
  obtain ⟨r, h', hr, hh', e⟩ := draw (W := W) (k := k) (lim := l.length) hd hh (by omega) (by omega) (by omega)
  have hr : r < l.length := by omega
  refine ⟨l[r], h', List.getElem_mem hr, hh', ?_⟩
  rw [callF_eq hs rfl]
  simp -implicitDefEqProofs [fdSome, hd, fdDraw, e, hr]
structure HasAtom (T : List FD) (at' : Nat) : Prop where
  ex : ∃ so, T[at']? = some (fdAtom so) ∧ HasSome T so
theorem HasAtom.md {at' : Nat} (H : HasAtom T at') : ∃ fd, T[at']? = some fd ∧ fd.md = [true] := by
  obtain ⟨dr, h, _⟩ := H.ex
  exact ⟨_, h, rfl⟩
def drawn : List Str := ["a", "b", "c", "d", "abcdefgh"]
theorem drawn_nm {s : Str} (h : s ∈ drawn) : nm s = true := by
  unfold drawn at h
  simp only [List.mem_cons, List.not_mem_nil, or_false] at h
  rcases h with rfl | rfl | rfl | rfl | rfl <;> kernel_rfl
theorem atom {h : PyData} (H : HasAtom T i) (hh : Hd h) (hk : 3 ≤ k) : ∃ s h', s ∈ drawn ∧ Hd h' ∧ callF W T k i [.own h] = .ok (.val (.str s)) [.own h'] := by
  obtain ⟨k, rfl⟩ : ∃ j, k = j + 1 := ⟨k - 1, by omega⟩
  obtain ⟨so, ha, hs⟩ := H.ex
  obtain ⟨x, h', hx, hh', e⟩ := some' (W := W) (k := k) (l := [.str "a", .str "a", .str "b", .str "b", .str "c", .str "d", .str "abcdefgh"]) hs hh (by simp) (by simp) (by omega)
  obtain ⟨s, rfl, hs'⟩ : ∃ s, x = .str s ∧ s ∈ drawn := by
    simp only [List.mem_cons, List.not_mem_nil, or_false] at hx
    rcases hx with rfl | rfl | rfl | rfl | rfl | rfl | rfl <;> exact ⟨_, rfl, by simp [drawn]⟩
  obtain ⟨fd, f1, f2⟩ := hs.md
  refine ⟨s, h', hs', hh', ?_⟩
  rw [callF_eq ha rfl]
  simp -implicitDefEqProofs [fdAtom, f1, f2, e]
/-- a kind of drawn atoms, n of them -/
def Th.dr : Th → Prop
  | .a s => s ∈ drawn
  | .o _ => False
  | .f l r => Th.dr l ∧ Th.dr r
def Th.n : Th → Nat
  | .f l r => Th.n l + Th.n r
  | _ => 1
theorem Th.dr_ok : ∀ {t : Th}, Th.dr t → t.ok
  | .a s, h => drawn_nm h
  | .f l r, h => ⟨Th.dr_ok h.1, Th.dr_ok h.2⟩
theorem Th.n_pos : ∀ t : Th, 1 ≤ Th.n t
  | .a _ => Nat.le_refl _
  | .o _ => Nat.le_refl _
  | .f l r => Nat.le_trans (Th.n_pos l) (Nat.le_add_right _ _)
theorem Th.h_n : ∀ t : Th, t.h + 1 ≤ Th.n t
  | .a _ => Nat.le_refl _
  | .o _ => Nat.le_refl _
  | .f l r => by
    have h1 := Th.h_n l
    have h2 := Th.h_n r
    show max l.h r.h + 1 + 1 ≤ Th.n l + Th.n r
    omega
structure HasKindD (T : List FD) (q : Nat) : Prop where
  ex : ∃ dr at', T[q]? = some (fdKind q dr at') ∧ T[dr]? = some fdDraw ∧ HasAtom T at'
theorem HasKindD.md {q : Nat} (H : HasKindD T q) : ∃ fd, T[q]? = some fd ∧ fd.md = [true, false] := by
  obtain ⟨dr, at', h, _⟩ := H.ex
  exact ⟨_, h, rfl⟩
theorem kind (H : HasKindD T i) : ∀ (L : Nat), 1 ≤ L → L ≤ 40 → ∀ (k : Nat), L + 3 ≤ k → ∀ h, Hd h → ∃ (t : Th) (h' : PyData), Th.dr t ∧ Th.n t = L ∧ Hd h' ∧ callF W T k i [.own h, .val (.int L)] = .ok (.val t.d) [.own h', .val (.int L)] := by
  obtain ⟨dr, at', hk', hd, ha⟩ := H.ex
  obtain ⟨fa, f1, f2⟩ := ha.md
  intro L
  induction L using Nat.strongRecOn with
  | ind L ih =>
    intro h1 h2 k hk h hh
    by_cases c : L = 1
    · obtain ⟨k, rfl⟩ : ∃ j, k = j + 1 := ⟨k - 1, by omega⟩
      obtain ⟨s, h', hs, hh', e⟩ := atom (W := W) (k := k) ha hh (by omega)
      refine ⟨.a s, h', hs, c.symm, hh', ?_⟩
      subst c
      rw [callF_eq hk' rfl]
      simp -implicitDefEqProofs [fdKind, f1, f2, e, Dn.Th.d]
    · obtain ⟨k, rfl⟩ : ∃ j, k = j + 1 := ⟨k - 1, by omega⟩
      obtain ⟨r, h1', hr, hh1, e1⟩ := draw (W := W) (k := k) (lim := (L : Int) - 1) hd hh (by omega) (by omega) (by omega)
      obtain ⟨r2, h2', hr2, hh2, e2⟩ := draw (W := W) (k := k) (lim := 2) hd hh1 (by omega) (by omega) (by omega)
      have go : ∀ f : Nat, 1 ≤ f → f < L → ∃ (l r : Th) (h4 : PyData), Th.dr l ∧ Th.dr r ∧ Th.n l + Th.n r = L ∧ Hd h4 ∧ ∃ h3, callF W T k i [.own h2', .val (.int f)] = .ok (.val l.d) [.own h3, .val (.int f)] ∧ callF W T k i [.own h3, .val (.int ((L : Int) - f))] = .ok (.val r.d) [.own h4, .val (.int ((L : Int) - f))] := by
        intro f f1 f2
        obtain ⟨l, h3, lo, ln, hh3, e3⟩ := ih f f2 f1 (by omega) k (by omega) h2' hh2
        obtain ⟨r, h4, ro, rn, hh4, e4⟩ := ih (L - f) (by omega) (by omega) (by omega) k (by omega) h3 hh3
        have z : ((L - f : Nat) : Int) = (L : Int) - f := by omega
        rw [z] at e4
        exact ⟨l, r, h4, lo, ro, by omega, hh4, h3, e3, e4⟩
      have n2 : ¬ (L : Int) < 2 := by omega
      by_cases c2 : r2 = 0
      · obtain ⟨l, r, h4, lo, ro, hn, hh4, h3, e3, e4⟩ := go 1 (by omega) (by omega)
        refine ⟨.f l r, h4, ⟨lo, ro⟩, hn, hh4, ?_⟩
        subst c2
        simp at e3 e4 e2
        rw [callF_eq hk' rfl]
        simp -implicitDefEqProofs [fdKind, fdDraw, hk', hd, e1, e2, e3, e4, n2, Dn.Th.d]
      · obtain ⟨l, r', h4, lo, ro, hn, hh4, h3, e3, e4⟩ := go (1 + r) (by omega) (by omega)
        refine ⟨.f l r', h4, ⟨lo, ro⟩, hn, hh4, ?_⟩
        have z : ((1 + r : Nat) : Int) = 1 + (r : Int) := by omega
        rw [z] at e3 e4
        rw [callF_eq hk' rfl]
        simp -implicitDefEqProofs [fdKind, fdDraw, hk', hd, e1, e2, e3, e4, n2, c2, Dn.Th.d]
def absD : PyData → PyData
  | .int i => .int (if i < 0 then -i else i)
  | d => d
theorem cut63 {l : List PyData} (h : l.length ≤ 63) : cutL l none (some 63) = l := by
  have e : HT.sIx l.length l.length (some 63) = l.length := by
    show (if (63 : Int) < 0 then ((63 : Int) + (l.length : Int)).toNat else min (63 : Int).toNat l.length) = l.length
    rw [if_neg (by decide)]
    show min 63 l.length = l.length
    omega
  unfold cutL
  rw [e]
  show (l.drop 0).take (l.length - 0) = l
  simp
theorem hand {ns : List Int} (hf : T[i]? = some fdHand) (h : ns.length ≤ 63) (hk : 1 ≤ k) : ∃ d, Hd d ∧ callF W T k i [.val (.list (ns.map .int))] = .ok (.fr d) [.val (.list (ns.map .int))] := by
  obtain ⟨k, rfl⟩ : ∃ j, k = j + 1 := ⟨k - 1, by omega⟩
  have c := cut63 (l := ns.map PyData.int) (by simpa using h)
  have s : slD (.list (ns.map PyData.int)) none (some 63) = some (.fr (.list (ns.map .int))) := by
    show some (EV.fr (.list (cutL (ns.map PyData.int) none (some 63)))) = _
    rw [c]
  have l : lcE [false] (enK W T k .stuck) [2] (.n 2) [] (.blt .abs [.blt .int [.v 2]]) (ns.map .int) [.val (.list (ns.map .int)), .un, .un] = .ok (.fr (.list ((ns.map .int).map absD))) [.val (.list (ns.map .int)), .un, .un] := by
    refine lc_map (ρ0 := [.val (.list (ns.map .int)), .un, .un]) _ rfl (by simp; omega) rfl rfl fun d hd => ?_
    obtain ⟨n, hn, rfl⟩ := List.mem_map.mp hd
    exact ⟨[.val (.list (ns.map .int)), .un, .val (.int n)], by simp, [.val (.list (ns.map .int)), .un, .val (.int n)], by simp -implicitDefEqProofs [absD], by simp⟩
  have m : (ns.map PyData.int).map absD = (ns.map fun i => if i < 0 then -i else i).map PyData.int := by
    rw [List.map_map, List.map_map]
    rfl
  rw [m] at l
  refine ⟨_, ⟨ns.map fun i => if i < 0 then -i else i, 0, 0, 433 + 42 * (ns.length : Int), 0, Int.le_refl _, rfl⟩, ?_⟩
  rw [callF_eq hf rfl]
  simp -implicitDefEqProofs [fdHand, s, l, bin_mulL, hnd]
/-! ### what is told and what is due -/
theorem is_items {c : PyData} {l : List PyData} (h : T[i]? = some (fdIs i)) (hc : c = .list l ∨ c = .tuple l) (hl : l.length ≤ 1000) (ih : ∀ x ∈ l, callF W T k i [.val x, .val x] = .ok (.val (.bool true)) [.val x, .val x]) :
    lcE [false, false] (enK W T k .stuck) [2] (.n 2) [] (.call i [.idx (.v 0) (.v 2), .idx (.v 1) (.v 2)]) ((List.range l.length).map fun (j : Nat) => PyData.int (j : Int)) [.val c, .val c, .un]
      = .ok (.fr (.list (((List.range l.length).map fun (j : Nat) => PyData.int (j : Int)).map fun _ => .bool true))) [.val c, .val c, .un] := by
  refine lc_map (ρ0 := [.val c, .val c, .un]) _ rfl (by simp; omega) rfl rfl fun d hd => ?_
  obtain ⟨j, hj, rfl⟩ := List.mem_map.mp hd
  have hj : j < l.length := List.mem_range.mp hj
  have e := ih l[j] (List.getElem_mem hj)
  refine ⟨[.val c, .val c, .val (.int j)], by simp, [.val c, .val c, .val (.int j)], ?_, by simp⟩
  rcases hc with rfl | rfl <;> simp -implicitDefEqProofs [h, fdIs, hj, e]
theorem is_list {l : List PyData} (h : T[i]? = some (fdIs i)) (hl : l.length ≤ 1000) (ih : ∀ x ∈ l, callF W T k i [.val x, .val x] = .ok (.val (.bool true)) [.val x, .val x]) :
    callF W T (k + 1) i [.val (.list l), .val (.list l)] = .ok (.val (.bool true)) [.val (.list l), .val (.list l)] := by
  have c := is_items (W := W) (k := k) (c := .list l) h (.inl rfl) hl ih
  have bs : boolsOf (List.map ((fun _ => PyData.bool true) ∘ fun (j : Nat) => PyData.int ↑j) (List.range l.length)) = some ((List.range l.length).map fun _ => true) := boolsOf_map (fun _ => true) _
  have rg := range_nat (n := l.length) (by omega)
  rw [callF_eq h rfl]
  simp -implicitDefEqProofs [fdIs, isTy, isNone, rg, c, bs]
theorem is_tuple {l : List PyData} (h : T[i]? = some (fdIs i)) (hl : l.length ≤ 1000) (ih : ∀ x ∈ l, callF W T k i [.val x, .val x] = .ok (.val (.bool true)) [.val x, .val x]) :
    callF W T (k + 1) i [.val (.tuple l), .val (.tuple l)] = .ok (.val (.bool true)) [.val (.tuple l), .val (.tuple l)] := by
  have c := is_items (W := W) (k := k) (c := .tuple l) h (.inr rfl) hl ih
  have bs : boolsOf (List.map ((fun _ => PyData.bool true) ∘ fun (j : Nat) => PyData.int ↑j) (List.range l.length)) = some ((List.range l.length).map fun _ => true) := boolsOf_map (fun _ => true) _
  have rg := range_nat (n := l.length) (by omega)
  rw [callF_eq h rfl]
  simp -implicitDefEqProofs [fdIs, isTy, isNone, rg, c, bs]
theorem is_flat {d : PyData} (h : T[i]? = some (fdIs i)) (hd : d = .none ∨ (∃ b, d = .bool b) ∨ (∃ i, d = .int i) ∨ ∃ s, d = .str s) : callF W T (k + 1) i [.val d, .val d] = .ok (.val (.bool true)) [.val d, .val d] := by
  rw [callF_eq h rfl]
  rcases hd with rfl | ⟨b, rfl⟩ | ⟨i, rfl⟩ | ⟨s, rfl⟩ <;> simp -implicitDefEqProofs [fdIs, isTy, isNone]
theorem is_refl (h : T[i]? = some (fdIs i)) : ∀ (m : Nat) (d : PyData) (k : Nat), d.depth ≤ m → m < k → nice d = true → callF W T k i [.val d, .val d] = .ok (.val (.bool true)) [.val d, .val d] := by
  intro m
  induction m with
  | zero =>
    intro d k hd hk hn
    obtain ⟨k, rfl⟩ : ∃ j, k = j + 1 := ⟨k - 1, by omega⟩
    cases d with
    | list l => exact absurd hd (by show ¬ PyData.depthAll l + 1 ≤ 0; omega)
    | tuple l => exact absurd hd (by show ¬ PyData.depthAll l + 1 ≤ 0; omega)
    | dict l => cases hn
    | none => exact is_flat h (.inl rfl)
    | bool b => exact is_flat h (.inr (.inl ⟨b, rfl⟩))
    | int i => exact is_flat h (.inr (.inr (.inl ⟨i, rfl⟩)))
    | str s => exact is_flat h (.inr (.inr (.inr ⟨s, rfl⟩)))
  | succ m ih =>
    intro d k hd hk hn
    obtain ⟨k, rfl⟩ : ∃ j, k = j + 1 := ⟨k - 1, by omega⟩
    have items : ∀ l : List PyData, PyData.depthAll l + 1 ≤ m + 1 → niceAll l = true → ∀ x ∈ l, callF W T k i [.val x, .val x] = .ok (.val (.bool true)) [.val x, .val x] := fun l h1 h2 x hx =>
      ih x k (by have := depthAll_mem hx; omega) (by omega) (niceAll_mem h2 hx)
    cases d with
    | dict l => cases hn
    | list l =>
      have hn : (decide (l.length ≤ 1000) && niceAll l) = true := hn
      rw [Bool.and_eq_true, decide_eq_true_eq] at hn
      exact is_list h hn.1 (items l hd hn.2)
    | tuple l =>
      have hn : (decide (l.length ≤ 1000) && niceAll l) = true := hn
      rw [Bool.and_eq_true, decide_eq_true_eq] at hn
      exact is_tuple h hn.1 (items l hd hn.2)
    | none => exact is_flat h (.inl rfl)
    | bool b => exact is_flat h (.inr (.inl ⟨b, rfl⟩))
    | int i => exact is_flat h (.inr (.inr (.inl ⟨i, rfl⟩)))
    | str s => exact is_flat h (.inr (.inr (.inr ⟨s, rfl⟩)))
end
end Dn.K0
/-! Den27: plain facts of wrong_part and of Wish, that many laws share -/
namespace Dn
open PySem
/-! ### dicts of texts -/
def kvS (l : List (Str × PyData)) : List (PyData × PyData) := l.map fun p => (.str p.1, p.2)
def prS (l : List (Str × PyData)) : List PyData := l.map fun p => .tuple [.str p.1, p.2]
@[simp] theorem kvS_ins {l : List (Str × PyData)} : isIns (kvS l) = false := by cases l <;> rfl
theorem isKey_str {s t : Str} : isKey (.inr s) (.str t) = decide (t = s) := by
  show decide ((Sum.inr t : L2.Key) = Sum.inr s) = _
  exact decide_eq_decide.mpr ⟨fun h => by cases h; rfl, fun h => by rw [h]⟩
theorem findK_kvS {s : Str} : ∀ {l : List (Str × PyData)}, (findK (.inr s) (kvS l)).isSome = decide (s ∈ l.map (·.1))
  | [] => by simp [kvS, findK]
  | p :: l => by
    show (if isKey (.inr s) (.str p.1) = true then some p.2 else findK (.inr s) (kvS l)).isSome = _
    rw [isKey_str]
    by_cases c : p.1 = s
    · subst c; simp
    · have ih := findK_kvS (s := s) (l := l)
      have c' : ¬ s = p.1 := fun e => c e.symm
      simp [c, c', ih]
theorem findK_new {s : Str} {l : List (Str × PyData)} (h : s ∉ l.map (·.1)) : findK (.inr s) (kvS l) = none := by
  have e := findK_kvS (s := s) (l := l)
  rw [decide_eq_false h] at e
  cases z : findK (.inr s) (kvS l) with
  | none => rfl
  | some d => rw [z] at e; cases e
theorem putKD_new {s : Str} {d : PyData} {l : List (Str × PyData)} (h : s ∉ l.map (·.1)) : putKD (.inr s) d (kvS l) = kvS (l ++ [(s, d)]) := by
  unfold putKD
  rw [findK_new h]
  show kvS l ++ [(.str s, d)] = _
  unfold kvS
  rw [List.map_append]
  rfl
theorem layKD_new : ∀ {l acc : List (Str × PyData)}, ((acc ++ l).map (·.1)).Nodup → layKD (kvS acc) (prS l) = some (kvS (acc ++ l))
  | [], acc, _ => by rw [List.append_nil]; rfl
  | p :: l, acc, h => by
    have e : acc ++ p :: l = (acc ++ [p]) ++ l := by simp
    have hn : p.1 ∉ acc.map (·.1) := fun z => by
      rw [List.map_append, List.map_cons, List.nodup_append] at h
      exact h.2.2 _ z _ (List.mem_cons_self ..) rfl
    show (keyOf (.str p.1)).bind (fun k => layKD (putKD k p.2 (kvS acc)) (prS l)) = _
    show layKD (putKD (.inr p.1) p.2 (kvS acc)) (prS l) = _
    rw [putKD_new hn, e]
    exact layKD_new (by rw [← e]; exact h)
theorem lay_nil {l : List (Str × PyData)} (h : (l.map (·.1)).Nodup) : layKD [] (prS l) = some (kvS l) := layKD_new (acc := []) (by simpa using h)
/-! ### items of a library -/
/-- a name by its look: texts are not too long, their signs are signs -/
def NmOk (n : PyData) : Prop := ∀ s, n = .str s → s.length ≤ 16777216 ∧ PyData.strOk s = true
def isNm : PyData → Bool
  | .str s => nm s
  | _ => false
/-- an item: a pair of something and a thing; no pair -/
inductive It where
  | p (n : PyData) (t : Th) | o (d : PyData)
def It.d : It → PyData
  | .p n t => .tuple [n, t.d]
  | .o d => d
def It.ok : It → Prop
  | .p n t => NmOk n ∧ t.ok
  | .o d => is2 d = false
def It.h : It → Nat
  | .p _ t => t.h
  | .o _ => 0
/-- a library: a tuple of items; no tuple -/
inductive Lb where
  | t (its : List It) | o (d : PyData)
def Lb.d : Lb → PyData
  | .t its => .tuple (its.map It.d)
  | .o d => d
def Lb.ok (m : Nat) : Lb → Prop
  | .t its => its.length ≤ 1000 ∧ ∀ i ∈ its, i.ok ∧ i.h ≤ m
  | .o d => isTy d .tuple = false
def pairsOf : List It → Option (List (PyData × Th))
  | [] => some []
  | .p n t :: r => (pairsOf r).map ((n, t) :: ·)
  | .o _ :: _ => none
theorem pairsOf_d : ∀ {its : List It} {ps : List (PyData × Th)}, pairsOf its = some ps → its = ps.map fun p => .p p.1 p.2
  | [], ps, h => by cases h; rfl
  | .p n t :: r, ps, h => by
    obtain ⟨q, h1, rfl⟩ := Option.map_eq_some_iff.mp (show (pairsOf r).map ((n, t) :: ·) = some ps from h)
    rw [List.map_cons, ← pairsOf_d h1]
theorem pairsOf_is2 : ∀ {its : List It}, (∀ i ∈ its, i.ok) → (pairsOf its).isSome = (its.map It.d).all is2
  | [], _ => rfl
  | .p n t :: r, h => by
    show ((pairsOf r).map ((n, t) :: ·)).isSome = (true && (r.map It.d).all is2)
    rw [Option.isSome_map, Bool.true_and]
    exact pairsOf_is2 fun i hi => h i (List.mem_cons_of_mem _ hi)
  | .o d :: r, h => by
    show false = (is2 d && (r.map It.d).all is2)
    rw [show is2 d = false from h (.o d) (List.mem_cons_self ..)]
    rfl
/-- is the pair right, behind these names -/
def goodP (seen : List Str) (p : PyData × Th) : Option Str := match p.1 with
  | .str s => if nm s = true ∧ s ∉ seen ∧ p.2.kd = true then some s else none
  | _ => none
def wrongAt (seen : List Str) (j : Nat) : List (PyData × Th) → Option Nat
  | [] => none
  | p :: r => match goodP seen p with
    | some s => wrongAt (seen ++ [s]) (j + 1) r
    | none => some j
def endV (b : Bool) : Option Nat → PyData
  | some j => .int (j : Nat)
  | none => if b = true then .none else .str "kind"
def wholeP (b : Bool) : Option (List (PyData × Th)) → PyData
  | some ps => endV b (wrongAt [] 0 ps)
  | none => .str "library"
def whole : Lb → Th → PyData
  | .t its, k => if its.length ≤ 10 then wholeP k.kd (pairsOf its) else .str "library"
  | .o _, _ => .str "library"
/-- right pairs -/
def nms (ps : List (PyData × Th)) : List (Str × PyData) := ps.map fun p => (match p.1 with | .str s => s | _ => "", p.2.d)
theorem wrongAt_none : ∀ {ps : List (PyData × Th)} {seen : List Str} {j : Nat}, wrongAt seen j ps = none → seen.Nodup → (seen ++ (nms ps).map (·.1)).Nodup ∧ (∀ p ∈ ps, ∃ s, p.1 = .str s ∧ nm s = true ∧ p.2.kd = true)
  | [], seen, j, _, h => ⟨by simpa [nms] using h, fun p hp => nomatch hp⟩
  | p :: r, seen, j, e, h => by
    have e : (match goodP seen p with | some s => wrongAt (seen ++ [s]) (j + 1) r | none => some j) = none := e
    cases g : goodP seen p with
    | none => rw [g] at e; cases e
    | some s =>
      rw [g] at e
      obtain ⟨n, t⟩ := p
      cases n with
      | str x =>
        have g : (if nm x = true ∧ x ∉ seen ∧ t.kd = true then some x else none) = some s := g
        by_cases z : nm x = true ∧ x ∉ seen ∧ t.kd = true
        · rw [if_pos z] at g
          have gx : x = s := Option.some.inj g
          subst gx
          have nd : (seen ++ [x]).Nodup := List.nodup_append.mpr ⟨h, by simp, fun a ha b hb => by rw [List.mem_singleton.mp hb]; exact fun y => z.2.1 (y ▸ ha)⟩
          obtain ⟨h1, h2⟩ := wrongAt_none (ps := r) e nd
          refine ⟨by simpa [nms] using h1, fun p hp => ?_⟩
          rcases List.mem_cons.mp hp with rfl | hp
          · exact ⟨x, rfl, z.1, z.2.2⟩
          · exact h2 p hp
        · rw [if_neg z] at g
          cases g
      | _ => cases g
theorem nms_d {ps : List (PyData × Th)} (h : ∀ p ∈ ps, ∃ s, p.1 = .str s ∧ nm s = true ∧ p.2.kd = true) : (ps.map fun p => It.p p.1 p.2).map It.d = prS (nms ps) := by
  unfold nms prS
  rw [List.map_map, List.map_map]
  refine List.map_congr_left fun p hp => ?_
  obtain ⟨s, e, _⟩ := h p hp
  obtain ⟨n, t⟩ := p
  simp only at e
  subst e
  rfl
/-! ### wrong_part -/
/-- its is_tuple's, is_name's, is_kind's numbers -/
def fdWrong (tu n q : Nat) : FD := { np := 2, ns := 5, md := [false, false], body := [.ite (.not (.call tu [.v 0, .c (.int 0), .c (.int 10)])) [.ret (.c (.str "library"))] [],
    .ite (.not (.blt .all [.lc [4] (.n 4) (.ex (.v 0)) [] (.call tu [.v 4, .c (.int 2), .c (.int 2)])])) [.ret (.c (.str "library"))] [],
    .set 2 (.dnew),
    .for (.t [3, 4]) (.enum (.v 0)) [.ite (.or (.not (.call n [.idx (.v 4) (.c (.int 0))])) (.or (.cmp .isin (.idx (.v 4) (.c (.int 0))) (.v 2)) (.not (.call q [.idx (.v 4) (.c (.int 1))])))) [.ret (.v 3)] [],
    .putD 2 (.idx (.v 4) (.c (.int 0))) (.c (.bool true))],
    .ret (.ite (.call q [.v 1]) (.c .none) (.c (.str "kind")))] }
/-- the law's own: its name's, kind's -/
def fdDue (n q : Nat) : FD := { np := 2, ns := 5, md := [false, false], body := [.ite (.or (.not (.isi (.v 0) [.tuple])) (.cmp .gt (.blt .len [.v 0]) (.c (.int 10)))) [.ret (.c (.str "library"))] [],
    .ite (.not (.blt .all [.lc [4] (.n 4) (.ex (.v 0)) [] (.and (.isi (.v 4) [.tuple]) (.cmp .eq (.blt .len [.v 4]) (.c (.int 2))))])) [.ret (.c (.str "library"))] [],
    .set 2 (.lst []),
    .for (.t [3, 4]) (.enum (.v 0)) [.ite (.or (.not (.call n [.idx (.v 4) (.c (.int 0))])) (.or (.not (.call q [.idx (.v 4) (.c (.int 1))])) (.cmp .isin (.idx (.v 4) (.c (.int 0))) (.v 2)))) [.ret (.v 3)] [],
    .app 2 (.idx (.v 4) (.c (.int 0)))],
    .ret (.ite (.call q [.v 1]) (.c .none) (.c (.str "kind")))] }
def isTup (lo hi : Nat) : PyData → Bool
  | .tuple l => decide (lo ≤ l.length ∧ l.length ≤ hi)
  | _ => false
section
variable {W k i : Nat} {T : List FD}
theorem isTupleG {d : PyData} {lo hi : Nat} (h : T[i]? = some fdIsTuple) : callF W T (k + 1) i [.val d, .val (.int lo), .val (.int hi)] = .ok (.val (.bool (isTup lo hi d))) [.val d, .val (.int lo), .val (.int hi)] := by
  rw [callF_eq h rfl]
  cases d with
  | tuple l =>
    by_cases c : lo ≤ l.length
    · have c1 : (lo : Int) ≤ l.length := by omega
      by_cases c2 : l.length ≤ hi
      · have c3 : (l.length : Int) ≤ hi := by omega
        simp -implicitDefEqProofs [fdIsTuple, isTy, isTup, c, c1, c2, c3]
      · have c3 : ¬ (l.length : Int) ≤ hi := by omega
        simp -implicitDefEqProofs [fdIsTuple, isTy, isTup, c, c1, c2, c3]
    · have c1 : ¬ (lo : Int) ≤ l.length := by omega
      simp -implicitDefEqProofs [fdIsTuple, isTy, isTup, c, c1]
  | _ => simp -implicitDefEqProofs [fdIsTuple, isTy, isTup]
theorem isTuple10 {d : PyData} (h : T[i]? = some fdIsTuple) : callF W T (k + 1) i [.val d, .val (.int 0), .val (.int 10)] = .ok (.val (.bool (isTup 0 10 d))) [.val d, .val (.int 0), .val (.int 10)] := isTupleG (lo := 0) (hi := 10) h
theorem name_any {d : PyData} (h : T[i]? = some fdIsName) (o : NmOk d) : callF W T (k + 1) i [.val d] = .ok (.val (.bool (isNm d))) [.val d] := by
  cases d with
  | str s => exact isName_s h (o s rfl).1
  | _ => exact isName_o h rfl
theorem lawName_any {d : PyData} (h : T[i]? = some fdLawName) (o : NmOk d) : callF W T (k + 1) i [.val d] = .ok (.val (.bool (isNm d))) [.val d] := by
  cases d with
  | str s => exact lawName_s h (o s rfl).1
  | _ => exact lawName_o h rfl
theorem name_any' {d : PyData} (h : T[i]? = some fdIsName) (o : NmOk d) (hk : 1 ≤ k) : callF W T k i [.val d] = .ok (.val (.bool (isNm d))) [.val d] := by
  obtain ⟨k, rfl⟩ : ∃ z, k = z + 1 := ⟨k - 1, by omega⟩
  exact name_any h o
theorem lawName_any' {d : PyData} (h : T[i]? = some fdLawName) (o : NmOk d) (hk : 1 ≤ k) : callF W T k i [.val d] = .ok (.val (.bool (isNm d))) [.val d] := by
  obtain ⟨k, rfl⟩ : ∃ z, k = z + 1 := ⟨k - 1, by omega⟩
  exact lawName_any h o
/-- the law's own is_kind stands at q, and what it needs -/
structure HasLawKind (T : List FD) (q : Nat) : Prop where
  ex : ∃ d n, T[q]? = some (fdLawKind d) ∧ T[d]? = some (fdDeepOf d n) ∧ T[n]? = some fdLawName
theorem HasLawKind.at {q : Nat} (H : HasLawKind T q) {t : Th} (ho : t.ok) (hk : t.h + 3 ≤ k) : callF W T k q [.val t.d] = .ok (.val (.bool t.kd)) [.val t.d] := by
  obtain ⟨d, n, h1, h2, h3⟩ := H.ex
  exact lawKind h1 h2 h3 ho hk
theorem HasLawKind.md {q : Nat} (H : HasLawKind T q) : ∃ fd, T[q]? = some fd ∧ fd.md = [false] := by
  obtain ⟨d, n, h1, _⟩ := H.ex
  exact ⟨_, h1, rfl⟩
def loopV : Option Nat → Fl
  | some j => .ret (.val (.int (j : Nat)))
  | none => .nx
theorem goodP_str {seen : List Str} {s : Str} {t : Th} : goodP seen (.str s, t) = if nm s = true ∧ s ∉ seen ∧ t.kd = true then some s else none := rfl
theorem wrongAt_cons {seen : List Str} {j : Nat} {p : PyData × Th} {r : List (PyData × Th)} : wrongAt seen j (p :: r) = match goodP seen p with | some s => wrongAt (seen ++ [s]) (j + 1) r | none => some j := rfl
def known (seen : List Str) : List (PyData × PyData) := kvS (seen.map fun s => (s, .bool true))
theorem wrong_loop {n q : Nat} {L K : PyData} (hn : T[n]? = some fdIsName) (Q : HasKind T q) (hk : 18 ≤ k) : ∀ (ps : List (PyData × Th)) (seen : List Str) (j : Nat) (x3 x4 : Slot), (∀ p ∈ ps, NmOk p.1 ∧ p.2.ok) → seen.length + ps.length ≤ 1000 →
    ∃ d' x3' x4', forE W [false, false] (enK W T k .stuck) (.t [3, 4]) [.ite (.or (.not (.call n [.idx (.v 4) (.c (.int 0))])) (.or (.cmp .isin (.idx (.v 4) (.c (.int 0))) (.v 2)) (.not (.call q [.idx (.v 4) (.c (.int 1))])))) [.ret (.v 3)] [],
      .putD 2 (.idx (.v 4) (.c (.int 0))) (.c (.bool true))] (((ps.map fun p => (It.p p.1 p.2).d).zipIdx j).map fun (d, j) => PyData.tuple [.int (j : Nat), d]) [.val L, .val K, .own (.dict (known seen)), x3, x4]
      = .ok (loopV (wrongAt seen j ps)) [.val L, .val K, .own (.dict d'), x3', x4']
  | [], seen, j, x3, x4, _, _ => ⟨_, x3, x4, rfl⟩
  | p :: ps, seen, j, x3, x4, h, hl => by
    obtain ⟨a, t⟩ := p
    obtain ⟨ha, ht⟩ := h (a, t) (List.mem_cons_self ..)
    have e1 := name_any' (W := W) (k := k) hn ha (by omega)
    have e2 := Q.at (W := W) ht hk
    obtain ⟨fd, q1, q2⟩ := Q.md
    have hl' : seen.length + (ps.length + 1) ≤ 1000 := hl
    have kl : (known seen).length < 16777216 := by
      unfold known kvS
      rw [List.length_map, List.length_map]
      omega
    have ki : isIns (known seen) = false := kvS_ins
    have bad : ∀ (v : goodP seen (a, t) = none), wrongAt seen j ((a, t) :: ps) = some j := fun v => by rw [wrongAt_cons, v]
    rw [List.map_cons, List.zipIdx_cons, List.map_cons, forE_cons]
    by_cases z : isNm a = true
    · obtain ⟨s, rfl⟩ : ∃ s, a = .str s := by
        cases a with
        | str s => exact ⟨s, rfl⟩
        | _ => cases z
      have z' : nm s = true := z
      have fk := findK_kvS (s := s) (l := seen.map fun s => (s, .bool true))
      rw [List.map_map, show ((fun (x : Str × PyData) => x.1) ∘ fun (s : Str) => (s, PyData.bool true)) = id from rfl, List.map_id] at fk
      have fk : (findK (.inr s) (known seen)).isSome = decide (s ∈ seen) := fk
      rw [z] at e1
      by_cases c : s ∈ seen
      · rw [bad (by rw [goodP_str, if_neg (fun y => y.2.1 c)])]
        rw [decide_eq_true c] at fk
        refine ⟨known seen, .val (.int (j : Nat)), .val (.tuple [.str s, t.d]), ?_⟩
        simp -implicitDefEqProofs [It.d, hn, fdIsName, e1, ki, fk, loopV]
      · rw [decide_eq_false c] at fk
        by_cases c2 : t.kd = true
        · have g : goodP seen (.str s, t) = some s := by rw [goodP_str, if_pos ⟨z', c, c2⟩]
          rw [wrongAt_cons, g]
          rw [c2] at e2
          have pk : putKD (.inr s) (.bool true) (known seen) = known (seen ++ [s]) := by
            unfold known
            rw [putKD_new (by rw [List.map_map, show ((fun (x : Str × PyData) => x.1) ∘ fun (s : Str) => (s, PyData.bool true)) = id from rfl, List.map_id]; exact c), List.map_append]
            rfl
          obtain ⟨d', x3', x4', e⟩ := wrong_loop hn Q hk ps (seen ++ [s]) (j + 1) (.val (.int (j : Nat))) (.val (.tuple [.str s, t.d])) (fun p hp => h p (List.mem_cons_of_mem _ hp)) (by rw [List.length_append, List.length_singleton]; omega)
          refine ⟨d', x3', x4', ?_⟩
          simp -implicitDefEqProofs [It.d, hn, fdIsName, e1, ki, fk, q1, q2, e2, kl, pk]
          exact e
        · have c3 : t.kd = false := Bool.eq_false_iff.mpr c2
          rw [bad (by rw [goodP_str, if_neg (fun y => c2 y.2.2)])]
          rw [c3] at e2
          refine ⟨known seen, .val (.int (j : Nat)), .val (.tuple [.str s, t.d]), ?_⟩
          simp -implicitDefEqProofs [It.d, hn, fdIsName, e1, ki, fk, q1, q2, e2, loopV]
    · have z' : isNm a = false := Bool.eq_false_iff.mpr z
      have g : goodP seen (a, t) = none := by
        cases a with
        | str s => rw [goodP_str, if_neg (fun y => z y.1)]
        | _ => rfl
      rw [bad g]
      rw [z'] at e1
      refine ⟨known seen, .val (.int (j : Nat)), .val (.tuple [a, t.d]), ?_⟩
      simp -implicitDefEqProofs [It.d, hn, fdIsName, e1, loopV]
theorem shaped_strs : ∀ {l : List Str}, (∀ s ∈ l, PyData.strOk s = true) → PyData.canLayAll0 (l.map .str) = true
  | [], _ => rfl
  | s :: l, h => by
    show (PyData.strOk s && PyData.canLayAll0 (l.map .str)) = true
    rw [h s (List.mem_cons_self ..), shaped_strs fun t ht => h t (List.mem_cons_of_mem _ ht)]
    rfl
theorem depth_strs : ∀ {l : List Str}, PyData.depthAll (l.map .str) = 0
  | [] => rfl
  | s :: l => by
    show max 0 (PyData.depthAll (l.map .str)) = 0
    rw [depth_strs]
    rfl
theorem in_strs {s : Str} {l : List Str} (hs : PyData.strOk s = true) (hl : ∀ t ∈ l, PyData.strOk t = true) : inD (.str s) (.list (l.map .str)) = some (decide (s ∈ l)) := by
  have h1 : SeqAt.shaped (.str s) = true := by
    show (PyData.strOk s && decide (0 ≤ 64)) = true
    rw [hs]
    rfl
  have h2 : SeqAt.shaped (.list (l.map .str)) = true := by
    show (PyData.canLayAll0 (l.map .str) && decide (PyData.depthAll (l.map .str) + 1 ≤ 64)) = true
    rw [shaped_strs hl, depth_strs]
    rfl
  have e : inD (.str s) (.list (l.map .str)) = some ((l.map .str).any fun y => PyData.eqv y (.str s)) := if_pos ⟨h1, h2⟩
  rw [e, List.any_map]
  congr 1
  rw [Bool.eq_iff_iff]
  simp only [List.any_eq_true, Function.comp, decide_eq_true_eq]
  constructor
  · rintro ⟨x, hx, he⟩
    have he : (x == s) = true := by simpa [PyData.eqv] using he
    rw [← beq_iff_eq.mp he]
    exact hx
  · intro h
    exact ⟨s, h, by simp [PyData.eqv]⟩
theorem due_loop {n q m : Nat} {L K : PyData} (hn : T[n]? = some fdLawName) (Q : HasLawKind T q) (hk : m + 3 ≤ k) : ∀ (ps : List (PyData × Th)) (seen : List Str) (j : Nat) (x3 x4 : Slot), (∀ p ∈ ps, NmOk p.1 ∧ p.2.ok ∧ p.2.h ≤ m) → seen.length + ps.length ≤ 1000 → (∀ s ∈ seen, PyData.strOk s = true) →
    ∃ d' x3' x4', forE W [false, false] (enK W T k .stuck) (.t [3, 4]) [.ite (.or (.not (.call n [.idx (.v 4) (.c (.int 0))])) (.or (.not (.call q [.idx (.v 4) (.c (.int 1))])) (.cmp .isin (.idx (.v 4) (.c (.int 0))) (.v 2)))) [.ret (.v 3)] [],
      .app 2 (.idx (.v 4) (.c (.int 0)))] (((ps.map fun p => (It.p p.1 p.2).d).zipIdx j).map fun (d, j) => PyData.tuple [.int (j : Nat), d]) [.val L, .val K, .own (.list (seen.map .str)), x3, x4]
      = .ok (loopV (wrongAt seen j ps)) [.val L, .val K, .own d', x3', x4']
  | [], seen, j, x3, x4, _, _, _ => ⟨_, x3, x4, rfl⟩
  | p :: ps, seen, j, x3, x4, h, hl, so => by
    obtain ⟨a, t⟩ := p
    obtain ⟨ha, ht, hm⟩ := h (a, t) (List.mem_cons_self ..)
    have hm : t.h ≤ m := hm
    have e1 := lawName_any' (W := W) (k := k) hn ha (by omega)
    have e2 := Q.at (W := W) (k := k) ht (by omega)
    obtain ⟨fd, q1, q2⟩ := Q.md
    have hl' : seen.length + (ps.length + 1) ≤ 1000 := hl
    have kl : seen.length < 16777216 := by omega
    have bad : ∀ (v : goodP seen (a, t) = none), wrongAt seen j ((a, t) :: ps) = some j := fun v => by rw [wrongAt_cons, v]
    rw [List.map_cons, List.zipIdx_cons, List.map_cons, forE_cons]
    by_cases z : isNm a = true
    · obtain ⟨s, rfl⟩ : ∃ s, a = .str s := by
        cases a with
        | str s => exact ⟨s, rfl⟩
        | _ => cases z
      have z' : nm s = true := z
      have ss := (ha s rfl).2
      have fk := in_strs ss so
      rw [z] at e1
      by_cases c2 : t.kd = true
      · rw [c2] at e2
        by_cases c : s ∈ seen
        · rw [bad (by rw [goodP_str, if_neg (fun y => y.2.1 c)])]
          rw [decide_eq_true c] at fk
          refine ⟨.list (seen.map .str), .val (.int (j : Nat)), .val (.tuple [.str s, t.d]), ?_⟩
          simp -implicitDefEqProofs [It.d, hn, fdLawName, e1, fk, q1, q2, e2, loopV]
        · rw [decide_eq_false c] at fk
          have g : goodP seen (.str s, t) = some s := by rw [goodP_str, if_pos ⟨z', c, c2⟩]
          rw [wrongAt_cons, g]
          obtain ⟨d', x3', x4', e⟩ := due_loop hn Q hk ps (seen ++ [s]) (j + 1) (.val (.int (j : Nat))) (.val (.tuple [.str s, t.d])) (fun p hp => h p (List.mem_cons_of_mem _ hp)) (by rw [List.length_append, List.length_singleton]; omega) (fun u hu => by
            rcases List.mem_append.mp hu with hu | hu
            · exact so u hu
            · rw [List.mem_singleton.mp hu]; exact ss)
          refine ⟨d', x3', x4', ?_⟩
          rw [List.map_append] at e
          simp -implicitDefEqProofs at e
          simp -implicitDefEqProofs [It.d, hn, fdLawName, e1, fk, q1, q2, e2, kl]
          exact e
      · have c3 : t.kd = false := Bool.eq_false_iff.mpr c2
        rw [bad (by rw [goodP_str, if_neg (fun y => c2 y.2.2)])]
        rw [c3] at e2
        refine ⟨.list (seen.map .str), .val (.int (j : Nat)), .val (.tuple [.str s, t.d]), ?_⟩
        simp -implicitDefEqProofs [It.d, hn, fdLawName, e1, q1, q2, e2, loopV]
    · have z' : isNm a = false := Bool.eq_false_iff.mpr z
      have g : goodP seen (a, t) = none := by
        cases a with
        | str s => rw [goodP_str, if_neg (fun y => z y.1)]
        | _ => rfl
      rw [bad g]
      rw [z'] at e1
      refine ⟨.list (seen.map .str), .val (.int (j : Nat)), .val (.tuple [a, t.d]), ?_⟩
      simp -implicitDefEqProofs [It.d, hn, fdLawName, e1, loopV]
/-- all are pairs -/
theorem pairs_lc {tu : Nat} {L K : Slot} {ds : List PyData} (ht : T[tu]? = some fdIsTuple) (hl : ds.length ≤ 1000) : lcE [false, false] (enK W T (k + 1) .stuck) [4] (.n 4) [] (.call tu [.v 4, .c (.int 2), .c (.int 2)]) ds [L, K, .un, .un, .un] = .ok (.fr (.list (ds.map fun d => .bool (is2 d)))) [L, K, .un, .un, .un] := by
  refine lc_map (ρ0 := [L, K, .un, .un, .un]) _ rfl (by simp; omega) rfl rfl fun d hd => ?_
  have e := isTuple (W := W) (k := k) (d := d) ht
  exact ⟨[L, K, .un, .un, .val d], by simp, [L, K, .un, .un, .val d], by simp -implicitDefEqProofs [ht, fdIsTuple, e], by simp⟩
theorem is2_ty {d : PyData} (h : isTy d .tuple = false) : is2 d = false := by cases d <;> first | rfl | cases h
theorem pairs_lcL {en : En} {L K : Slot} {ds : List PyData} (hl : ds.length ≤ 1000) : lcE [false, false] en [4] (.n 4) [] (.and (.isi (.v 4) [.tuple]) (.cmp .eq (.blt .len [.v 4]) (.c (.int 2)))) ds [L, K, .un, .un, .un] = .ok (.fr (.list (ds.map fun d => .bool (is2 d)))) [L, K, .un, .un, .un] := by
  refine lc_map (ρ0 := [L, K, .un, .un, .un]) _ rfl (by simp; omega) rfl rfl fun d hd => ?_
  refine ⟨[L, K, .un, .un, .val d], by simp, [L, K, .un, .un, .val d], ?_, by simp⟩
  cases d with
  | tuple l =>
    have e : decide ((l.length : Int) = 2) = (l.length == 2) := by
      rw [Bool.eq_iff_iff, decide_eq_true_eq, beq_iff_eq]
      omega
    simp -implicitDefEqProofs [isTy, is2, e]
  | _ => simp -implicitDefEqProofs [isTy, is2]
theorem is2_bs (ds : List PyData) : boolsOf (ds.map fun d => .bool (is2 d)) = some (ds.map is2) := boolsOf_map is2 ds
theorem all_id (ds : List PyData) : (ds.map is2).all id = ds.all is2 := by rw [List.all_map]; rfl
theorem its_pairs {its : List It} {ps : List (PyData × Th)} (h : pairsOf its = some ps) : its.map It.d = ps.map fun p => (It.p p.1 p.2).d := by
  rw [pairsOf_d h, List.map_map]
  rfl
theorem wrongPart {tu n q : Nat} (h : T[i]? = some (fdWrong tu n q)) (ht : T[tu]? = some fdIsTuple) (hn : T[n]? = some fdIsName) (Q : HasKind T q) {m : Nat} {L : Lb} {K : Th} (hL : L.ok m) (hK : K.ok) (hk : 19 ≤ k) :
    callF W T k i [.val L.d, .val K.d] = .ok (.val (whole L K)) [.val L.d, .val K.d] := by
  obtain ⟨k, rfl⟩ : ∃ z, k = z + 2 := ⟨k - 2, by omega⟩
  rw [callF_eq h rfl]
  have t0 := isTuple10 (W := W) (k := k) (d := L.d) ht
  cases L with
  | o d =>
    have z : isTup 0 10 d = false := by cases d <;> first | rfl | cases hL
    rw [show Lb.d (.o d) = d from rfl] at t0 ⊢
    rw [z] at t0
    simp -implicitDefEqProofs [fdWrong, ht, fdIsTuple, t0, whole]
  | t its =>
    obtain ⟨hl, hi⟩ := hL
    by_cases c : its.length ≤ 10
    · have z : isTup 0 10 (Lb.d (.t its)) = true := by
        show decide (0 ≤ (its.map It.d).length ∧ (its.map It.d).length ≤ 10) = true
        rw [List.length_map]
        exact decide_eq_true ⟨Nat.zero_le _, c⟩
      rw [z] at t0
      have lc := pairs_lc (W := W) (k := k) (L := .val (Lb.d (.t its))) (K := .val K.d) (ds := its.map It.d) ht (by rw [List.length_map]; omega)
      have p2 := pairsOf_is2 fun i h => (hi i h).1
      show _ = CRes.ok (.val (if its.length ≤ 10 then _ else _)) _
      rw [if_pos c]
      cases ep : pairsOf its with
      | none =>
        rw [ep] at p2
        have p2 : (its.map It.d).all is2 = false := p2.symm
        have al : (List.map is2 (its.map It.d)).all id = false := by rw [all_id]; exact p2
        have e1 : Lb.d (.t its) = .tuple (its.map It.d) := rfl
        rw [e1] at t0 lc ⊢
        generalize its.map It.d = ds at t0 lc al
        simp -implicitDefEqProofs [fdWrong, ht, fdIsTuple, t0, lc, is2_bs, wholeP] at al ⊢
        simp -implicitDefEqProofs [al]
      | some ps =>
        rw [ep] at p2
        have p2 : (its.map It.d).all is2 = true := p2.symm
        have al : (List.map is2 (its.map It.d)).all id = true := by rw [all_id]; exact p2
        have e1 : Lb.d (.t its) = .tuple (its.map It.d) := rfl
        have e2 := its_pairs ep
        have hp : ∀ p ∈ ps, NmOk p.1 ∧ p.2.ok := fun p hp => (hi (.p p.1 p.2) (by rw [pairsOf_d ep]; exact List.mem_map.mpr ⟨p, hp, rfl⟩)).1
        have len : ps.length ≤ 10 := by
          have := congrArg List.length (pairsOf_d ep)
          rw [List.length_map] at this
          omega
        obtain ⟨d', x3', x4', lp⟩ := wrong_loop (W := W) (k := k + 1) (L := Lb.d (.t its)) (K := K.d) hn Q (by omega) ps [] 0 .un .un hp (by simp; omega)
        have kn : known [] = [] := rfl
        rw [e1] at t0 lc lp ⊢
        rw [kn, ← e2] at lp
        generalize its.map It.d = ds at t0 lc al lp
        have fin : execSs W [false, false] (enK W T (k + 1) .stuck) [.set 2 (.dnew),
            .for (.t [3, 4]) (.enum (.v 0)) [.ite (.or (.not (.call n [.idx (.v 4) (.c (.int 0))])) (.or (.cmp .isin (.idx (.v 4) (.c (.int 0))) (.v 2)) (.not (.call q [.idx (.v 4) (.c (.int 1))])))) [.ret (.v 3)] [],
            .putD 2 (.idx (.v 4) (.c (.int 0))) (.c (.bool true))],
            .ret (.ite (.call q [.v 1]) (.c .none) (.c (.str "kind")))] [.val (.tuple ds), .val K.d, .un, .un, .un] = .ok (.ret (.val (endV K.kd (wrongAt [] 0 ps)))) [.val (.tuple ds), .val K.d, .own (.dict d'), x3', x4'] := by
          cases ew : wrongAt [] 0 ps with
          | some j =>
            rw [ew] at lp
            simp -implicitDefEqProofs [lp, loopV, endV]
          | none =>
            rw [ew] at lp
            have eK := Q.at (W := W) (k := k + 1) hK (by omega)
            obtain ⟨fd, q1, q2⟩ := Q.md
            cases cK : K.kd with
            | true =>
              rw [cK] at eK
              simp -implicitDefEqProofs [lp, loopV, q1, q2, eK, endV]
            | false =>
              rw [cK] at eK
              simp -implicitDefEqProofs [lp, loopV, q1, q2, eK, endV]
        have nb : ¬ ∃ x, x ∈ ds ∧ is2 x = false := fun ⟨x, hx, e⟩ => by
          rw [all_id] at al
          rw [List.all_eq_true.mp al x hx] at e
          cases e
        simp -implicitDefEqProofs [fdWrong, ht, fdIsTuple, t0, lc, is2_bs, wholeP]
        rw [if_neg nb, bnd_ok, seqF_nx, fin]
        simp -implicitDefEqProofs
    · have z : isTup 0 10 (Lb.d (.t its)) = false := by
        show decide (0 ≤ (its.map It.d).length ∧ (its.map It.d).length ≤ 10) = false
        rw [List.length_map]
        exact decide_eq_false (by omega)
      rw [z] at t0
      have w : whole (.t its) K = .str "library" := if_neg c
      rw [w]
      simp -implicitDefEqProofs [fdWrong, ht, fdIsTuple, t0]
end
end Dn
/-! Den28: further plain facts: slices, comparisons of kinds, comprehensions by place -/
namespace Dn
open PySem
theorem sIx_nat {n d : Nat} {a : Nat} : HT.sIx n d (some (a : Int)) = min a n := by
  show (if (a : Int) < 0 then ((a : Int) + (n : Int)).toNat else min (a : Int).toNat n) = _
  rw [if_neg (by omega), Int.toNat_natCast]
theorem cut_to {α : Type} {xs : List α} {n : Nat} : cutL xs none (some (n : Int)) = xs.take n := by
  unfold cutL
  rw [sIx_nat]
  show (xs.drop 0).take (min n xs.length - 0) = _
  rw [List.drop_zero, Nat.sub_zero]
  by_cases c : n ≤ xs.length
  · rw [Nat.min_eq_left c]
  · rw [Nat.min_eq_right (by omega), List.take_of_length_le (by omega), List.take_of_length_le (by omega)]
theorem cut_from {α : Type} {xs : List α} {n : Nat} : cutL xs (some (n : Int)) none = xs.drop n := by
  unfold cutL
  rw [sIx_nat]
  show (xs.drop (min n xs.length)).take (xs.length - min n xs.length) = _
  rw [List.take_of_length_le (by rw [List.length_drop]; omega)]
  by_cases c : n ≤ xs.length
  · rw [Nat.min_eq_left c]
  · rw [Nat.min_eq_right (by omega), List.drop_of_length_le (by omega), List.drop_of_length_le (by omega)]
theorem sl_toL {l : List PyData} {n : Nat} : slD (.list l) none (some (n : Int)) = some (.fr (.list (l.take n))) := by
  show some (EV.fr (.list (cutL l none (some (n : Int))))) = _
  rw [cut_to]
theorem sl_fromL {l : List PyData} {n : Nat} : slD (.list l) (some (n : Int)) none = some (.fr (.list (l.drop n))) := by
  show some (EV.fr (.list (cutL l (some (n : Int)) none))) = _
  rw [cut_from]
theorem sl_toT {l : List PyData} {n : Nat} : slD (.tuple l) none (some (n : Int)) = some (.val (.tuple (l.take n))) := by
  show some (EV.val (.tuple (cutL l none (some (n : Int))))) = _
  rw [cut_to]
theorem sl_fromT {l : List PyData} {n : Nat} : slD (.tuple l) (some (n : Int)) none = some (.val (.tuple (l.drop n))) := by
  show some (EV.val (.tuple (cutL l (some (n : Int)) none))) = _
  rw [cut_from]
theorem bin_rep2 {a : List PyData} (h : a.length ≤ 1000) : binD .mul (.list a) (.int 2) = some (.fr (.list (a ++ a))) := by
  have e : binD .mul (.list a) (.int 2) = some (.fr (.list (List.replicate 2 a).flatten)) := if_pos ⟨by decide, by decide, by show a.length * 2 ≤ 16777216; omega⟩
  rw [e]
  simp [List.replicate]
/-! ### data of texts and tuples -/
mutual
def sd : PyData → Bool
  | .str s => PyData.strOk s
  | .tuple l => sdAll l
  | _ => false
def sdAll : List PyData → Bool
  | [] => true
  | x :: l => sd x && sdAll l
end
mutual
theorem sd_lay : ∀ {d : PyData}, sd d = true → d.canLay0 = true
  | .str s, h => h
  | .tuple l, h => sdAll_lay (l := l) h
  | .none, h => by cases h
  | .bool _, h => by cases h
  | .int _, h => by cases h
  | .list _, h => by cases h
  | .dict _, h => by cases h
theorem sdAll_lay : ∀ {l : List PyData}, sdAll l = true → PyData.canLayAll0 l = true
  | [], _ => rfl
  | x :: l, h => by
    have h : (sd x && sdAll l) = true := h
    rw [Bool.and_eq_true] at h
    show (x.canLay0 && PyData.canLayAll0 l) = true
    rw [sd_lay h.1, sdAll_lay h.2]
    rfl
end
mutual
theorem sd_eqv : ∀ {a b : PyData}, sd a = true → sd b = true → (PyData.eqv a b = true ↔ a = b)
  | .str s, .str t, _, _ => by
    show (s == t) = true ↔ _
    rw [beq_iff_eq]
    exact ⟨fun h => by rw [h], fun h => by cases h; rfl⟩
  | .tuple l, .tuple m, h, g => by
    show PyData.eqvAll l m = true ↔ _
    rw [sdAll_eqv h g]
    exact ⟨fun h => by rw [h], fun h => by cases h; rfl⟩
  | .str s, .tuple m, _, _ => ⟨fun h => by simp [PyData.eqv] at h, fun h => by cases h⟩
  | .tuple m, .str s, _, _ => ⟨fun h => by simp [PyData.eqv] at h, fun h => by cases h⟩
  | .str _, .none, _, h => by cases h
  | .str _, .bool _, _, h => by cases h
  | .str _, .int _, _, h => by cases h
  | .str _, .list _, _, h => by cases h
  | .str _, .dict _, _, h => by cases h
  | .tuple _, .none, _, h => by cases h
  | .tuple _, .bool _, _, h => by cases h
  | .tuple _, .int _, _, h => by cases h
  | .tuple _, .list _, _, h => by cases h
  | .tuple _, .dict _, _, h => by cases h
  | .none, _, h, _ => by cases h
  | .bool _, _, h, _ => by cases h
  | .int _, _, h, _ => by cases h
  | .list _, _, h, _ => by cases h
  | .dict _, _, h, _ => by cases h
theorem sdAll_eqv : ∀ {a b : List PyData}, sdAll a = true → sdAll b = true → (PyData.eqvAll a b = true ↔ a = b)
  | [], [], _, _ => ⟨fun _ => rfl, fun _ => rfl⟩
  | [], _ :: _, _, _ => ⟨fun h => (by simp [PyData.eqvAll] at h), fun h => by cases h⟩
  | _ :: _, [], _, _ => ⟨fun h => (by simp [PyData.eqvAll] at h), fun h => by cases h⟩
  | x :: l, y :: m, h, g => by
    have h : (sd x && sdAll l) = true := h
    have g : (sd y && sdAll m) = true := g
    rw [Bool.and_eq_true] at h g
    show (PyData.eqv x y && PyData.eqvAll l m) = true ↔ _
    rw [Bool.and_eq_true, sd_eqv h.1 g.1, sdAll_eqv h.2 g.2]
    exact ⟨fun h => by rw [h.1, h.2], fun h => by cases h; exact ⟨rfl, rfl⟩⟩
end
theorem eqT_sd {l m : List PyData} : eqT (.tuple l) (.tuple m) = none := rfl
/-- x == y of tuples of texts -/
theorem eqD_sd {l m : List PyData} (h : sdAll l = true) (g : sdAll m = true) (hd : min (PyData.tuple l).depth (PyData.tuple m).depth ≤ 64) {b : Bool} (hb : b = true ↔ l = m) : eqD (.tuple l) (.tuple m) = some b := by
  rw [eqD_of (a := .tuple l) (b := .tuple m) rfl (sdAll_lay h) (sdAll_lay g) hd]
  congr 1
  rw [Bool.eq_iff_iff, hb]
  exact sdAll_eqv h g
theorem sdAll_app : ∀ {l m : List PyData}, sdAll l = true → sdAll m = true → sdAll (l ++ m) = true
  | [], m, _, h => h
  | x :: l, m, h, g => by
    have h : (sd x && sdAll l) = true := h
    rw [Bool.and_eq_true] at h
    show (sd x && sdAll (l ++ m)) = true
    rw [h.1, sdAll_app h.2 g]
    rfl
theorem sdAll_of : ∀ {l : List PyData}, (∀ x ∈ l, sd x = true) → sdAll l = true
  | [], _ => rfl
  | x :: l, h => by
    show (sd x && sdAll l) = true
    rw [h x (List.mem_cons_self ..), sdAll_of fun y hy => h y (List.mem_cons_of_mem _ hy)]
    rfl
/-! ### wishes -/
@[simp] theorem eqwR_ok {nm : Str} {neg c : Bool} {x y : PyData} {ρ : Env} {o : List Slot} : eqwR nm neg x y ρ (.ok (.val (.bool c)) o) = if iswD nm x = some true ∧ (iswD nm y).isSome = true then .ok (.val (.bool (c != neg))) ρ else .stuck := rfl
theorem isw_ins {nm : Str} {a b : PyData} {c : List (PyData × PyData)} : iswD nm (insD nm a b c) = some true := if_pos rfl
/-- pairs of names and things -/
def dl (l : List (Str × Th)) : List (Str × PyData) := l.map fun p => (p.1, p.2.d)
def itS (l : List (Str × Th)) : List It := l.map fun p => .p (.str p.1) p.2
theorem itS_d {l : List (Str × Th)} : (Lb.t (itS l)).d = .tuple (prS (dl l)) := by
  show PyData.tuple ((itS l).map It.d) = _
  unfold itS prS dl
  rw [List.map_map, List.map_map]
  rfl
theorem pairsOf_itS : ∀ {l : List (Str × Th)}, pairsOf (itS l) = some (l.map fun p => (.str p.1, p.2))
  | [] => rfl
  | p :: l => by
    show (pairsOf (itS l)).map _ = _
    rw [pairsOf_itS]
    rfl
theorem wrongAt_good : ∀ {l : List (Str × Th)} {seen : List Str} {j : Nat}, (seen ++ l.map (·.1)).Nodup → (∀ p ∈ l, nm p.1 = true ∧ p.2.kd = true) → wrongAt seen j (l.map fun p => (PyData.str p.1, p.2)) = none
  | [], _, _, _, _ => rfl
  | p :: l, seen, j, hn, h => by
    have hp := h p (List.mem_cons_self ..)
    have ns : p.1 ∉ seen := fun z => by
      rw [List.map_cons, List.nodup_append] at hn
      exact hn.2.2 _ z _ (List.mem_cons_self ..) rfl
    have g : goodP seen (PyData.str p.1, p.2) = some p.1 := by rw [goodP_str, if_pos ⟨hp.1, ns, hp.2⟩]
    rw [List.map_cons, wrongAt_cons, g]
    exact wrongAt_good (by simpa using hn) fun q hq => h q (List.mem_cons_of_mem _ hq)
structure GoodL (l : List (Str × Th)) : Prop where
  nd : (l.map (·.1)).Nodup
  ok : ∀ p ∈ l, nm p.1 = true ∧ p.2.kd = true ∧ p.2.ok ∧ PyData.strOk p.1 = true
  len : l.length ≤ 10
theorem GoodL.whole {l : List (Str × Th)} (h : GoodL l) {K : Th} (hK : K.kd = true) : whole (.t (itS l)) K = .none := by
  have e : Dn.whole (.t (itS l)) K = if (itS l).length ≤ 10 then wholeP K.kd (pairsOf (itS l)) else .str "library" := rfl
  rw [e, if_pos (by unfold itS; rw [List.length_map]; exact h.len), pairsOf_itS]
  show endV K.kd (wrongAt [] 0 _) = _
  rw [wrongAt_good (by simpa using h.nd) fun p hp => ⟨(h.ok p hp).1, (h.ok p hp).2.1⟩, hK]
  rfl
theorem th_le {m : Nat} {t : Th} (h : t.kd = true) (hm : 15 ≤ m) : t.h ≤ m := by
  obtain ⟨n, _, _, h2⟩ := Th.kd_of h
  omega
theorem GoodL.lb {l : List (Str × Th)} (h : GoodL l) : (Lb.t (itS l)).ok 15 := by
  refine ⟨by unfold itS; rw [List.length_map]; have := h.len; omega, fun i hi => ?_⟩
  unfold itS at hi
  obtain ⟨p, hp, rfl⟩ := List.mem_map.mp hi
  obtain ⟨a, b, c, d⟩ := h.ok p hp
  refine ⟨⟨fun s e => ?_, c⟩, th_le b (Nat.le_refl _)⟩
  cases e
  exact ⟨by have := nm_len a; omega, d⟩
theorem GoodL.lay {l : List (Str × Th)} (h : GoodL l) : layKD [] (prS (dl l)) = some (kvS (dl l)) := lay_nil (by
  have e : (dl l).map (·.1) = l.map (·.1) := by unfold dl; rw [List.map_map]; rfl
  rw [e]
  exact h.nd)
theorem GoodL.cons {l : List (Str × Th)} {s : Str} {t u : Th} (h : GoodL ((s, t) :: l)) (k : u.kd = true) (o : u.ok) : GoodL ((s, u) :: l) := by
  refine ⟨h.nd, fun p hp => ?_, h.len⟩
  rcases List.mem_cons.mp hp with rfl | hp
  · have := h.ok _ (List.mem_cons_self ..)
    exact ⟨this.1, k, o, this.2.2.2⟩
  · exact h.ok p (List.mem_cons_of_mem _ hp)
theorem GoodL.tail {l : List (Str × Th)} {p : Str × Th} (h : GoodL (p :: l)) : GoodL l := ⟨(List.nodup_cons.mp h.nd).2, fun q hq => h.ok q (List.mem_cons_of_mem _ hq), by have := h.len; rw [List.length_cons] at this; omega⟩
theorem GoodL.snoc {l : List (Str × Th)} {s : Str} {t : Th} (h : GoodL l) (hs : s ∉ l.map (·.1)) (hn : nm s = true) (so : PyData.strOk s = true) (k : t.kd = true) (o : t.ok) (len : l.length < 10) : GoodL (l ++ [(s, t)]) := by
  refine ⟨?_, fun p hp => ?_, by rw [List.length_append, List.length_singleton]; omega⟩
  · rw [List.map_append]
    exact List.nodup_append.mpr ⟨h.nd, by simp, fun a ha b hb => by rw [List.mem_singleton.mp hb]; exact fun z => hs ((show a = s from z) ▸ ha)⟩
  · rcases List.mem_append.mp hp with q | q
    · exact h.ok p q
    · rw [List.mem_singleton.mp q]
      exact ⟨hn, k, o, so⟩
/-! ### loops by place -/
theorem comp_runI {as : PyData → Env → Res Bool} {elt : Env → Res PyData} {wp : Env → Env} (I : List PyData → Env → Prop) : ∀ {ds acc : List PyData} {ρ : Env} (n : Nat), acc.length = n → acc.length + ds.length ≤ szl → I acc ρ →
    (∀ (j : Nat) d, ds[j]? = some d → ∀ acc ρ, acc.length = n + j → I acc ρ → ∃ ρ1, as d ρ = .ok true ρ1 ∧ ∃ y ρ2, elt ρ1 = .ok y ρ2 ∧ I (acc ++ [y]) (wp ρ2)) → ∃ l ρ', compL as elt wp ds acc ρ = .ok l ρ' ∧ I l ρ' ∧ l.length = acc.length + ds.length
  | [], acc, ρ, n, _, _, h0, _ => ⟨acc, ρ, rfl, h0, rfl⟩
  | d :: ds, acc, ρ, n, hn, hl, h0, h => by
    obtain ⟨ρ1, e1, y, ρ2, e2, i2⟩ := h 0 d rfl acc ρ hn h0
    have hl' : acc.length + (ds.length + 1) ≤ szl := hl
    obtain ⟨l, ρ', e3, i3, n3⟩ := comp_runI I (ds := ds) (acc := acc ++ [y]) (ρ := wp ρ2) (n + 1) (by rw [List.length_append, List.length_singleton, hn]) (by rw [List.length_append, List.length_singleton]; omega) i2 fun j d hd acc ρ ha => h (j + 1) d hd acc ρ (by omega)
    refine ⟨l, ρ', ?_, i3, by rw [n3, List.length_append, List.length_singleton, List.length_cons]; omega⟩
    show (as d ρ).bind _ = _
    rw [e1]
    show (elt ρ1).bind _ = _
    rw [e2]
    show (if acc.length < szl then compL as elt wp ds (acc ++ [y]) (wp ρ2) else .stuck) = _
    rw [if_pos (by omega), e3]
theorem lc_runI {md : List Bool} {en : En} {ws : List Nat} {tg : Tg} {e : ME} {ds : List PyData} {ρ : Env} (I : List PyData → Env → Prop) (hw : ws.all (free md) = true) (hl : ds.length ≤ szl) (h0 : I [] (wipeS ws ρ))
    (h : ∀ (j : Nat) d, ds[j]? = some d → ∀ acc ρ, acc.length = j → I acc ρ → ∃ ρ1, assignT md tg d ρ = some ρ1 ∧ ∃ y ρ2, (evalE md en e ρ1).bind settle = .ok y ρ2 ∧ I (acc ++ [y]) (wipeS ws ρ2)) : ∃ l ρ', lcE md en ws tg [] e ds ρ = .ok (.fr (.list l)) (restore ws ρ ρ') ∧ I l ρ' ∧ l.length = ds.length := by
  obtain ⟨l, ρ', e1, i1, n1⟩ := comp_runI (as := fun d ρ => on (assignT md tg d ρ) fun ρ => evalCs md en [] ρ) (elt := fun ρ => (evalE md en e ρ).bind settle) (wp := wipeS ws) I (ds := ds) (acc := []) 0 rfl (by simpa using hl) h0 fun j d hd acc ρ ha i => by
    obtain ⟨ρ1, e1, y, ρ2, e2, i2⟩ := h j d hd acc ρ (by omega) i
    refine ⟨ρ1, ?_, y, ρ2, e2, i2⟩
    rw [e1]
    rfl
  refine ⟨l, ρ', ?_, i1, by simpa using n1⟩
  unfold lcE
  rw [if_pos hw, e1]
  rfl
/-- one statement, then the rest -/
theorem xs_step {W : Nat} {md : List Bool} {en : En} {s : MS} {ss : List MS} {ρ ρ' : Env} (h : execS W md en s ρ = .ok .nx ρ') : execSs W md en (s :: ss) ρ = execSs W md en ss ρ' := by
  rw [xs_cons, h]
  rfl
end Dn
/-! Den30: plain facts of programs: their form, their kinds -/
namespace Dn
open PySem
theorem eqT_tup {l : List PyData} {b : PyData} : eqT (.tuple l) b = none := by cases b <;> rfl
theorem eqD_eqv {a b : PyData} (ha : sd a = true) (hb : sd b = true) (hd : min a.depth b.depth ≤ 64) : eqD a b = some (PyData.eqv a b) := by
  cases a with
  | str x =>
    cases b with
    | str y => show some (x == y) = some (PyData.eqv (.str x) (.str y)); simp [PyData.eqv]
    | tuple m => exact eqD_of rfl (sd_lay ha) (sd_lay hb) hd
    | _ => cases hb
  | tuple l => exact eqD_of eqT_tup (sd_lay ha) (sd_lay hb) hd
  | _ => cases ha
/-! ### things that are kinds through and through -/
def Th.pu : Th → Prop
  | .a s => PyData.strOk s = true
  | .o _ => False
  | .f l r => l.pu ∧ r.pu
theorem Th.pu_sd : ∀ {t : Th}, t.pu → sd t.d = true
  | .a s, h => h
  | .f l r, h => by
    show (sd l.d && (sd r.d && true)) = true
    rw [Th.pu_sd h.1, Th.pu_sd h.2]
    rfl
theorem Th.pu_depth : ∀ {t : Th}, t.pu → t.d.depth ≤ t.h
  | .a _, _ => Nat.le_refl _
  | .f l r, h => by
    have a := Th.pu_depth h.1
    have b := Th.pu_depth h.2
    show max l.d.depth (max r.d.depth 0) + 1 ≤ max l.h r.h + 1
    omega
theorem Th.pu_inj : ∀ {t u : Th}, t.pu → u.pu → t.d = u.d → t = u
  | .a s, .a s', _, _, e => by cases e; rfl
  | .f l r, .f l' r', h, g, e => by
    have e : PyData.tuple [l.d, r.d] = .tuple [l'.d, r'.d] := e
    injection e with e
    injection e with e1 e
    injection e with e2 _
    rw [Th.pu_inj h.1 g.1 e1, Th.pu_inj h.2 g.2 e2]
  | .a s, .f _ _, _, _, e => by cases e
  | .f _ _, .a s, _, _, e => by cases e
/-! ### programs, and what is none within -/
inductive Pg where
  | s (x : Str) | i (n : Int) | f (k : Th) (b : Pg) | u (a b : Pg) | o (d : PyData)
def Pg.d : Pg → PyData
  | .s x => .str x
  | .i n => .int n
  | .f k b => .tuple [.str "fun", k.d, b.d]
  | .u a b => .tuple [.str "use", a.d, b.d]
  | .o d => d
def Pg.h : Pg → Nat
  | .f _ b => b.h + 1
  | .u a b => max a.h b.h + 1
  | _ => 0
def isCalled (w : Str) : PyData → Bool
  | .tuple [.str x, _, _] => x == w
  | _ => false
def isInt : PyData → Bool
  | .int _ => true
  | _ => false
def NoPg (d : PyData) : Prop := isTy d .str = false ∧ isInt d = false ∧ isCalled "fun" d = false ∧ isCalled "use" d = false
def Pg.ok (B : Nat) : Pg → Prop
  | .f k b => k.ok ∧ (k.kd = true → k.pu ∧ k.h ≤ B) ∧ k.h ≤ 60 ∧ b.ok B
  | .u a b => a.ok B ∧ b.ok B
  | .o d => NoPg d
  | _ => True
/-- has it the form -/
def has (N : List Str) : Pg → Nat → Bool
  | .s x, _ => decide (x ∈ N)
  | .i n, m => decide (0 ≤ n ∧ n < m)
  | .f k b, m => k.kd && has N b (m + 1)
  | .u a b, m => has N a m && has N b m
  | .o _, _ => false
def useK : Option Th → Option Th → Option Th
  | some (.f l r), some t => if PyData.eqv l.d t.d = true then some r else none
  | _, _ => none
/-- its kind -/
def kindOf (L : List (Str × Th)) : Pg → List Th → Option Th
  | .s x, _ => L.lookup x
  | .i n, ar => ar[n.toNat]?
  | .f k b, ar => (kindOf L b (ar ++ [k])).map (.f k ·)
  | .u a b, ar => useK (kindOf L a ar) (kindOf L b ar)
  | .o _, _ => none
def kD : Option Th → PyData
  | some t => t.d
  | none => .none
/-- kinds of names and arguments around -/
def KsOk (B : Nat) (l : List Th) : Prop := ∀ t ∈ l, t.pu ∧ t.h ≤ B
theorem lookup_mem {α : Type} {x : Str} {t : α} : ∀ {L : List (Str × α)}, L.lookup x = some t → (x, t) ∈ L
  | (y, u) :: L, h => by
    rw [List.lookup_cons] at h
    by_cases c : (x == y) = true
    · rw [c] at h
      cases h
      rw [beq_iff_eq.mp c]
      exact List.mem_cons_self ..
    · rw [Bool.eq_false_iff.mpr c] at h
      exact List.mem_cons_of_mem _ (lookup_mem h)
theorem lookup_some {α : Type} {x : Str} : ∀ {L : List (Str × α)}, x ∈ L.map (·.1) → ∃ t, L.lookup x = some t
  | (y, u) :: L, h => by
    rw [List.lookup_cons]
    by_cases c : (x == y) = true
    · rw [c]
      exact ⟨u, rfl⟩
    · rw [Bool.eq_false_iff.mpr c]
      rcases List.mem_cons.mp h with e | h
      · exact absurd (beq_iff_eq.mpr e) c
      · exact lookup_some h
theorem useK_some {a b : Option Th} {t : Th} (h : useK a b = some t) : ∃ l u, a = some (.f l t) ∧ b = some u ∧ PyData.eqv l.d u.d = true := by
  unfold useK at h
  split at h
  · rename_i l r u
    by_cases c : PyData.eqv l.d u.d = true
    · rw [if_pos c] at h
      cases h
      exact ⟨l, u, rfl, rfl, c⟩
    · rw [if_neg c] at h
      cases h
  · cases h
theorem kindOf_ok {B : Nat} {L : List (Str × Th)} (hL : ∀ p ∈ L, p.2.pu ∧ p.2.h ≤ B) : ∀ (p : Pg) (ar : List Th) (m : Nat) (N : List Str), p.ok B → has N p m = true → KsOk B ar → ∀ t, kindOf L p ar = some t → t.pu ∧ t.h ≤ B + p.h
  | .s x, ar, m, N, _, _, _, t, h => hL (x, t) (lookup_mem h)
  | .i n, ar, m, N, _, _, ha, t, h => ha t (List.mem_of_getElem? h)
  | .f k b, ar, m, N, ho, hh, ha, t, h => by
    obtain ⟨u, e, rfl⟩ := Option.map_eq_some_iff.mp (show (kindOf L b (ar ++ [k])).map (.f k ·) = some t from h)
    have hh : (k.kd && has N b (m + 1)) = true := hh
    rw [Bool.and_eq_true] at hh
    have kp := ho.2.1 hh.1
    obtain ⟨h1, h2⟩ := kindOf_ok hL b (ar ++ [k]) (m + 1) N ho.2.2.2 hh.2 (fun v hv => by
      rcases List.mem_append.mp hv with q | q
      · exact ha v q
      · rw [List.mem_singleton.mp q]; exact kp) u e
    refine ⟨⟨kp.1, h1⟩, ?_⟩
    have := kp.2
    show max k.h u.h + 1 ≤ B + (b.h + 1)
    omega
  | .u a b, ar, m, N, ho, hh, ha, t, h => by
    obtain ⟨l, u, e1, e2, _⟩ := useK_some (show useK (kindOf L a ar) (kindOf L b ar) = some t from h)
    have hh : (has N a m && has N b m) = true := hh
    rw [Bool.and_eq_true] at hh
    obtain ⟨h1, h2⟩ := kindOf_ok hL a ar m N ho.1 hh.1 ha _ e1
    refine ⟨h1.2, ?_⟩
    have h2 : max l.h t.h + 1 ≤ B + a.h := h2
    show t.h ≤ B + (max a.h b.h + 1)
    omega
/-! ### the program's own -/
def fdIsInt : FD := { np := 1, ns := 1, md := [false], body := [.ret (.and (.isi (.v 0) [.int]) (.not (.isi (.v 0) [.bool])))] }
def fdWithin (ii : Nat) : FD := { np := 3, ns := 3, md := [false, false, false], body := [.ret (.and (.call ii [.v 0]) (.chain .le .le (.v 1) (.v 0) (.v 2)))] }
def fdCalled (tu : Nat) : FD := { np := 3, ns := 3, md := [false, false, false], body := [.ret (.and (.call tu [.v 0, .v 2, .v 2]) (.and (.isi (.idx (.v 0) (.c (.int 0))) [.str]) (.cmp .eq (.idx (.v 0) (.c (.int 0))) (.v 1))))] }
def fdHasForm (own ii wi ca q : Nat) : FD := { np := 3, ns := 4, md := [false, false, false], body := [.ite (.isi (.v 1) [.str]) [.ret (.cmp .isin (.v 1) (.v 0))] [],
    .ite (.call ii [.v 1]) [.ret (.call wi [.v 1, .c (.int 0), .bin .sub (.v 2) (.c (.int 1))])] [],
    .ite (.call ca [.v 1, .c (.str "fun"), .c (.int 3)]) [.ret (.and (.call q [.idx (.v 1) (.c (.int 1))]) (.call own [.v 0, .idx (.v 1) (.c (.int 2)), .bin .add (.v 2) (.c (.int 1))]))] [],
    .ret (.and (.call ca [.v 1, .c (.str "use"), .c (.int 3)]) (.blt .all [.lc [3] (.n 3) (.ex (.sl (.v 1) (.ex (.c (.int 1))) .non)) [] (.call own [.v 0, .v 3, .v 2])]))] }
def fdKindIn (own ii at' : Nat) : FD := { np := 3, ns := 7, md := [false, false, false], body := [.ite (.isi (.v 1) [.str]) [.ret (.idx (.v 0) (.v 1))] [],
    .ite (.call ii [.v 1]) [.ret (.idx (.v 2) (.v 1))] [],
    .ite (.cmp .eq (.idx (.v 1) (.c (.int 0))) (.c (.str "fun"))) [.set 3 (.call own [.v 0, .idx (.v 1) (.c (.int 2)), .bin .add (.v 2) (.tup [.idx (.v 1) (.c (.int 1))])]),
    .ret (.ite (.cmp .is (.v 3) (.c .none)) (.c .none) (.tup [.idx (.v 1) (.c (.int 1)), .v 3]))] [],
    .unpack [4, 5] (.lc [6] (.n 6) (.ex (.sl (.v 1) (.ex (.c (.int 1))) .non)) [] (.call own [.v 0, .v 6, .v 2])),
    .ite (.or (.cmp .is (.v 4) (.c .none)) (.or (.cmp .is (.v 5) (.c .none)) (.or (.call at' [.v 4]) (.cmp .ne (.idx (.v 4) (.c (.int 0))) (.v 5))))) [.ret (.c .none)] [],
    .ret (.idx (.v 4) (.c (.int 1)))] }
section
variable {W k i : Nat} {T : List FD}
theorem isIntF {d : PyData} (h : T[i]? = some fdIsInt) (hk : 1 ≤ k) : callF W T k i [.val d] = .ok (.val (.bool (isInt d))) [.val d] := by
  obtain ⟨k, rfl⟩ : ∃ z, k = z + 1 := ⟨k - 1, by omega⟩
  rw [callF_eq h rfl]
  cases d <;> simp -implicitDefEqProofs [fdIsInt, isTy, isInt]
theorem withinF {ii : Nat} {n a b : Int} (h : T[i]? = some (fdWithin ii)) (hi : T[ii]? = some fdIsInt) (hk : 2 ≤ k) : callF W T k i [.val (.int n), .val (.int a), .val (.int b)] = .ok (.val (.bool (decide (a ≤ n ∧ n ≤ b)))) [.val (.int n), .val (.int a), .val (.int b)] := by
  obtain ⟨k, rfl⟩ : ∃ z, k = z + 2 := ⟨k - 2, by omega⟩
  have e := isIntF (W := W) (k := k + 1) (d := .int n) hi (by omega)
  rw [callF_eq h rfl]
  by_cases c : a ≤ n
  · simp -implicitDefEqProofs [fdWithin, hi, fdIsInt, e, isInt, c]
  · simp -implicitDefEqProofs [fdWithin, hi, fdIsInt, e, isInt, c]
theorem calledF {tu : Nat} {d : PyData} {w : Str} (h : T[i]? = some (fdCalled tu)) (ht : T[tu]? = some fdIsTuple) (hk : 2 ≤ k) : callF W T k i [.val d, .val (.str w), .val (.int 3)] = .ok (.val (.bool (isCalled w d))) [.val d, .val (.str w), .val (.int 3)] := by
  obtain ⟨k, rfl⟩ : ∃ z, k = z + 2 := ⟨k - 2, by omega⟩
  have e : callF W T (k + 1) tu [.val d, .val (.int 3), .val (.int 3)] = _ := isTupleG (W := W) (k := k) (d := d) (lo := 3) (hi := 3) ht
  rw [callF_eq h rfl]
  cases d with
  | tuple l =>
    match l with
    | [] => simp -implicitDefEqProofs [isTup] at e; simp -implicitDefEqProofs [fdCalled, ht, fdIsTuple, e, isCalled]
    | [a] => simp -implicitDefEqProofs [isTup] at e; simp -implicitDefEqProofs [fdCalled, ht, fdIsTuple, e, isCalled]
    | [a, b] => simp -implicitDefEqProofs [isTup] at e; simp -implicitDefEqProofs [fdCalled, ht, fdIsTuple, e, isCalled]
    | [a, b, c] =>
      simp -implicitDefEqProofs [isTup] at e
      cases a with
      | str x => simp -implicitDefEqProofs [fdCalled, ht, fdIsTuple, e, isTy, isCalled]
      | _ => simp -implicitDefEqProofs [fdCalled, ht, fdIsTuple, e, isTy, isCalled]
    | a :: b :: c :: x :: r =>
      have z : isTup 3 3 (.tuple (a :: b :: c :: x :: r)) = false := by
        show decide (3 ≤ (a :: b :: c :: x :: r).length ∧ (a :: b :: c :: x :: r).length ≤ 3) = false
        exact decide_eq_false (by simp)
      rw [z] at e
      simp -implicitDefEqProofs [fdCalled, ht, fdIsTuple, e, isCalled]
  | _ => simp -implicitDefEqProofs [isTup] at e; simp -implicitDefEqProofs [fdCalled, ht, fdIsTuple, e, isCalled]
/-- has_form stands at i, and what it needs -/
structure HasF (T : List FD) (i : Nat) : Prop where
  ex : ∃ ii wi ca q tu, T[i]? = some (fdHasForm i ii wi ca q) ∧ T[ii]? = some fdIsInt ∧ T[wi]? = some (fdWithin ii) ∧ T[ca]? = some (fdCalled tu) ∧ T[tu]? = some fdIsTuple ∧ HasKind T q
theorem HasF.md (H : HasF T i) : ∃ fd, T[i]? = some fd ∧ fd.md = [false, false, false] := by
  obtain ⟨_, _, _, _, _, h, _⟩ := H.ex
  exact ⟨_, h, rfl⟩
theorem use_fun : ¬ (("use" : Str) = "fun") := by decide
theorem call_two : ∀ (a b : PyData), slD (.tuple [.str "use", a, b]) (some 1) none = some (.val (.tuple [a, b])) := fun a b => sl_fromT (l := [.str "use", a, b]) (n := 1)
theorem hasForm (H : HasF T i) {B : Nat} {l : List (Str × PyData)} : ∀ (p : Pg) (m k : Nat), p.ok B → p.h + 20 ≤ k → callF W T k i [.val (.dict (kvS l)), .val p.d, .val (.int m)] = .ok (.val (.bool (has (l.map (·.1)) p m))) [.val (.dict (kvS l)), .val p.d, .val (.int m)]
  | .s x, m, k, ho, hk => by
    obtain ⟨ii, wi, ca, q, tu, h, h1, h2, h3, h4, Q⟩ := H.ex
    obtain ⟨k, rfl⟩ : ∃ z, k = z + 1 := ⟨k - 1, by omega⟩
    have fk := findK_kvS (s := x) (l := l)
    have ki : isIns (kvS l) = false := kvS_ins
    rw [callF_eq h rfl]
    simp -implicitDefEqProofs [fdHasForm, Pg.d, isTy, ki, fk, has]
  | .i n, m, k, ho, hk => by
    obtain ⟨ii, wi, ca, q, tu, h, h1, h2, h3, h4, Q⟩ := H.ex
    obtain ⟨k, rfl⟩ : ∃ z, k = z + 1 := ⟨k - 1, by omega⟩
    have e1 := isIntF (W := W) (k := k) (d := .int n) h1 (by omega)
    have e2 := withinF (W := W) (k := k) (n := n) (a := 0) (b := (m : Int) - 1) h2 h1 (by omega)
    have z : decide (0 ≤ n ∧ n ≤ (m : Int) - 1) = decide (0 ≤ n ∧ n < (m : Int)) := decide_eq_decide.mpr (by omega)
    rw [z] at e2
    rw [callF_eq h rfl]
    simp -implicitDefEqProofs [isInt] at e1 e2
    simp -implicitDefEqProofs [fdHasForm, Pg.d, isTy, h1, fdIsInt, h2, fdWithin, e1, e2, has]
  | .o d, m, k, ho, hk => by
    obtain ⟨ii, wi, ca, q, tu, h, h1, h2, h3, h4, Q⟩ := H.ex
    obtain ⟨k, rfl⟩ : ∃ z, k = z + 1 := ⟨k - 1, by omega⟩
    obtain ⟨o1, o2, o3, o4⟩ := ho
    have e1 := isIntF (W := W) (k := k) (d := d) h1 (by omega)
    have e3 := calledF (W := W) (k := k) (d := d) (w := "fun") h3 h4 (by omega)
    have e4 := calledF (W := W) (k := k) (d := d) (w := "use") h3 h4 (by omega)
    rw [o2] at e1
    rw [o3] at e3
    rw [o4] at e4
    rw [callF_eq h rfl]
    simp -implicitDefEqProofs [fdHasForm, Pg.d, o1, h1, fdIsInt, h3, fdCalled, e1, e3, e4, has]
  | .f t b, m, k, ho, hk => by
    obtain ⟨ii, wi, ca, q, tu, h, h1, h2, h3, h4, Q⟩ := H.ex
    have hk : b.h + 1 + 20 ≤ k := hk
    obtain ⟨k, rfl⟩ : ∃ z, k = z + 1 := ⟨k - 1, by omega⟩
    have e1 := isIntF (W := W) (k := k) (d := .tuple [.str "fun", t.d, b.d]) h1 (by omega)
    have e3 := calledF (W := W) (k := k) (d := .tuple [.str "fun", t.d, b.d]) (w := "fun") h3 h4 (by omega)
    have e5 := Q.at (W := W) (k := k) ho.1 (by omega)
    have ih := hasForm H (l := l) b (m + 1) k ho.2.2.2 (by omega)
    have mi : ((m + 1 : Nat) : Int) = (m : Int) + 1 := by omega
    rw [mi] at ih
    obtain ⟨fd, q1, q2⟩ := Q.md
    simp -implicitDefEqProofs [isInt, isCalled] at e1 e3
    rw [callF_eq h rfl]
    cases c : t.kd with
    | true =>
      rw [c] at e5
      simp -implicitDefEqProofs [fdHasForm, Pg.d, isTy, h, h1, fdIsInt, h3, fdCalled, e1, e3, q1, q2, e5, ih, has, c]
    | false =>
      rw [c] at e5
      simp -implicitDefEqProofs [fdHasForm, Pg.d, isTy, h, h1, fdIsInt, h3, fdCalled, e1, e3, q1, q2, e5, has, c]
  | .u a b, m, k, ho, hk => by
    obtain ⟨ii, wi, ca, q, tu, h, h1, h2, h3, h4, Q⟩ := H.ex
    have hk : max a.h b.h + 1 + 20 ≤ k := hk
    obtain ⟨k, rfl⟩ : ∃ z, k = z + 1 := ⟨k - 1, by omega⟩
    have e1 := isIntF (W := W) (k := k) (d := .tuple [.str "use", a.d, b.d]) h1 (by omega)
    have e3 := calledF (W := W) (k := k) (d := .tuple [.str "use", a.d, b.d]) (w := "fun") h3 h4 (by omega)
    have e4 := calledF (W := W) (k := k) (d := .tuple [.str "use", a.d, b.d]) (w := "use") h3 h4 (by omega)
    have ia := hasForm H (l := l) a m k ho.1 (by omega)
    have ib := hasForm H (l := l) b m k ho.2 (by omega)
    have z : isCalled "fun" (.tuple [.str "use", a.d, b.d]) = false := by kernel_rfl
    rw [z] at e3
    simp -implicitDefEqProofs [isInt, isCalled] at e1 e4
    have sl := call_two a.d b.d
    rw [callF_eq h rfl]
    simp -implicitDefEqProofs [fdHasForm, Pg.d, isTy, h, h1, fdIsInt, h3, fdCalled, e1, e3, e4, sl, lcE, compL, ia, ib, boolsOf, has]
/-- kind_in stands at i, and what it needs -/
structure HasK (T : List FD) (i : Nat) : Prop where
  ex : ∃ ii at', T[i]? = some (fdKindIn i ii at') ∧ T[ii]? = some fdIsInt ∧ T[at']? = some fdIsAtom
theorem HasK.md (H : HasK T i) : ∃ fd, T[i]? = some fd ∧ fd.md = [false, false, false] := by
  obtain ⟨_, _, h, _⟩ := H.ex
  exact ⟨_, h, rfl⟩
theorem findK_lookup {x : Str} : ∀ {L : List (Str × Th)}, findK (.inr x) (kvS (dl L)) = (L.lookup x).map Th.d
  | [] => rfl
  | (y, t) :: L => by
    show (if isKey (.inr x) (.str y) = true then some t.d else findK (.inr x) (kvS (dl L))) = _
    rw [isKey_str, List.lookup_cons]
    by_cases c : y = x
    · subst c
      simp
    · have c' : (x == y) = false := beq_eq_false_iff_ne.mpr fun e => c e.symm
      rw [c', decide_eq_false c]
      exact findK_lookup
theorem dl_names {L : List (Str × Th)} : (dl L).map (·.1) = L.map (·.1) := by
  unfold dl
  rw [List.map_map]
  rfl
theorem th_ty {t : Th} (h : t.pu) : isTy t.d .str = match t with | .a _ => true | _ => false := by
  cases t with
  | a s => rfl
  | o d => exact False.elim h
  | f l r => rfl
theorem th_none {t : Th} (h : t.pu) : isNone t.d = false := by
  cases t with
  | a s => rfl
  | o d => exact False.elim h
  | f l r => rfl
theorem isNn : isNone .none = true := rfl
theorem isNt {l : List PyData} : isNone (.tuple l) = false := rfl
theorem isNs {s : Str} : isNone (.str s) = false := rfl
theorem kindIn (H : HasK T i) {B : Nat} {L : List (Str × Th)} (hL : ∀ p ∈ L, p.2.pu ∧ p.2.h ≤ B) : ∀ (p : Pg) (ar : List Th) (k : Nat), p.ok B → has (L.map (·.1)) p ar.length = true → KsOk B ar → B + p.h ≤ 65 → ar.length + p.h ≤ 1000 → p.h + 3 ≤ k →
    callF W T k i [.val (.dict (kvS (dl L))), .val p.d, .val (.tuple (ar.map Th.d))] = .ok (.val (kD (kindOf L p ar))) [.val (.dict (kvS (dl L))), .val p.d, .val (.tuple (ar.map Th.d))]
  | .s x, ar, k, ho, hh, ha, hb, hl, hk => by
    obtain ⟨ii, at', h, h1, h2⟩ := H.ex
    obtain ⟨k, rfl⟩ : ∃ z, k = z + 1 := ⟨k - 1, by omega⟩
    have ki : isIns (kvS (dl L)) = false := kvS_ins
    have fl := findK_lookup (x := x) (L := L)
    obtain ⟨t, e⟩ := lookup_some (show x ∈ L.map (·.1) from of_decide_eq_true hh)
    rw [e] at fl
    show _ = CRes.ok (.val (kD (L.lookup x))) _
    rw [e, callF_eq h rfl]
    simp -implicitDefEqProofs [fdKindIn, Pg.d, isTy, ki, fl, kD]
  | .i n, ar, k, ho, hh, ha, hb, hl, hk => by
    obtain ⟨ii, at', h, h1, h2⟩ := H.ex
    obtain ⟨k, rfl⟩ : ∃ z, k = z + 1 := ⟨k - 1, by omega⟩
    have e1 := isIntF (W := W) (k := k) (d := .int n) h1 (by omega)
    simp -implicitDefEqProofs [isInt] at e1
    obtain ⟨n0, n1⟩ := of_decide_eq_true (show decide (0 ≤ n ∧ n < (ar.length : Int)) = true from hh)
    have nl : n.toNat < ar.length := by omega
    show _ = CRes.ok (.val (kD ar[n.toNat]?)) _
    rw [List.getElem?_eq_getElem nl, callF_eq h rfl]
    simp -implicitDefEqProofs [fdKindIn, Pg.d, isTy, h1, fdIsInt, e1, n0, nl, kD]
  | .o d, ar, k, ho, hh, ha, hb, hl, hk => by cases hh
  | .f t b, ar, k, ho, hh, ha, hb, hl, hk => by
    obtain ⟨ii, at', h, h1, h2⟩ := H.ex
    have hk : b.h + 1 + 3 ≤ k := hk
    have hb : B + (b.h + 1) ≤ 65 := hb
    have hl : ar.length + (b.h + 1) ≤ 1000 := hl
    obtain ⟨k, rfl⟩ : ∃ z, k = z + 1 := ⟨k - 1, by omega⟩
    have hh : (t.kd && has (L.map (·.1)) b (ar.length + 1)) = true := hh
    rw [Bool.and_eq_true] at hh
    have kp := ho.2.1 hh.1
    have e1 := isIntF (W := W) (k := k) (d := .tuple [.str "fun", t.d, b.d]) h1 (by omega)
    simp -implicitDefEqProofs [isInt] at e1
    have ar2 : KsOk B (ar ++ [t]) := fun v hv => by
      rcases List.mem_append.mp hv with q | q
      · exact ha v q
      · rw [List.mem_singleton.mp q]; exact kp
    have ih := kindIn H hL b (ar ++ [t]) k ho.2.2.2 (by rw [List.length_append, List.length_singleton]; exact hh.2) ar2 (by omega) (by rw [List.length_append, List.length_singleton]; omega) (by omega)
    rw [List.map_append] at ih
    have sz : (ar.map Th.d).length + 1 ≤ 16777216 := by rw [List.length_map]; omega
    show _ = CRes.ok (.val (kD ((kindOf L b (ar ++ [t])).map (.f t ·)))) _
    rw [callF_eq h rfl]
    generalize ar.map Th.d = ad at ih sz ⊢
    cases c : kindOf L b (ar ++ [t]) with
    | none =>
      rw [c] at ih
      simp -implicitDefEqProofs [kD] at ih
      simp -implicitDefEqProofs [fdKindIn, Pg.d, isTy, h, h1, fdIsInt, e1, ih, sz, kD, isNn, isNt, isNs]
    | some u =>
      rw [c] at ih
      have un := th_none (kindOf_ok hL b (ar ++ [t]) _ _ ho.2.2.2 hh.2 ar2 u c).1
      simp -implicitDefEqProofs [kD] at ih
      simp -implicitDefEqProofs [fdKindIn, Pg.d, isTy, h, h1, fdIsInt, e1, ih, sz, kD, un, Th.d]
  | .u a b, ar, k, ho, hh, ha, hb, hl, hk => by
    obtain ⟨ii, at', h, h1, h2⟩ := H.ex
    have hk : max a.h b.h + 1 + 3 ≤ k := hk
    have hb : B + (max a.h b.h + 1) ≤ 65 := hb
    have hl : ar.length + (max a.h b.h + 1) ≤ 1000 := hl
    obtain ⟨k, rfl⟩ : ∃ z, k = z + 1 := ⟨k - 1, by omega⟩
    have hh : (has (L.map (·.1)) a ar.length && has (L.map (·.1)) b ar.length) = true := hh
    rw [Bool.and_eq_true] at hh
    have e1 := isIntF (W := W) (k := k) (d := .tuple [.str "use", a.d, b.d]) h1 (by omega)
    simp -implicitDefEqProofs [isInt] at e1
    have ia := kindIn H hL a ar k ho.1 hh.1 ha (by omega) (by omega) (by omega)
    have ib := kindIn H hL b ar k ho.2 hh.2 ha (by omega) (by omega) (by omega)
    have sl := call_two a.d b.d
    show _ = CRes.ok (.val (kD (useK (kindOf L a ar) (kindOf L b ar)))) _
    rw [callF_eq h rfl]
    generalize ar.map Th.d = ad at ia ib ⊢
    cases ca : kindOf L a ar with
    | none =>
      rw [ca] at ia
      simp -implicitDefEqProofs [kD] at ia
      simp -implicitDefEqProofs [fdKindIn, Pg.d, isTy, h, h1, fdIsInt, e1, use_fun, sl, lcE, compL, ia, ib, kD, isNn, isNt, isNs, useK]
    | some ta =>
      rw [ca] at ia
      have pa := (kindOf_ok hL a ar _ _ ho.1 hh.1 ha ta ca)
      have na := th_none pa.1
      simp -implicitDefEqProofs [kD] at ia
      cases cb : kindOf L b ar with
      | none =>
        rw [cb] at ib
        simp -implicitDefEqProofs [kD] at ib
        have z : useK (some ta) none = none := by cases ta <;> rfl
        simp -implicitDefEqProofs [fdKindIn, Pg.d, isTy, h, h1, fdIsInt, e1, use_fun, sl, lcE, compL, ia, ib, kD, isNn, isNt, isNs, na, z]
      | some tb =>
        rw [cb] at ib
        have pb := (kindOf_ok hL b ar _ _ ho.2 hh.2 ha tb cb)
        have nb := th_none pb.1
        simp -implicitDefEqProofs [kD] at ib
        obtain ⟨k, rfl⟩ : ∃ z, k = z + 1 := ⟨k - 1, by omega⟩
        have ea := isAtom (W := W) (k := k) (d := ta.d) h2
        cases ta with
        | o d => exact False.elim pa.1
        | a s =>
          simp -implicitDefEqProofs [isTy, Th.d] at ea
          have z : useK (some (.a s)) (some tb) = none := rfl
          simp -implicitDefEqProofs [Th.d] at ia na
          simp -implicitDefEqProofs [fdKindIn, Pg.d, isTy, h, h1, h2, fdIsAtom, fdIsInt, e1, use_fun, sl, lcE, compL, ia, ib, kD, isNn, isNt, isNs, na, nb, ea, z]
        | f l r =>
          simp -implicitDefEqProofs [isTy, Th.d] at ea
          have pl : l.pu := pa.1.1
          have hl2 : max l.h r.h + 1 ≤ B + a.h := pa.2
          have q := eqD_eqv (Th.pu_sd pl) (Th.pu_sd pb.1) (by
            have := Th.pu_depth pl
            omega)
          have z : useK (some (.f l r)) (some tb) = if PyData.eqv l.d tb.d = true then some r else none := rfl
          simp -implicitDefEqProofs [Th.d] at ia na
          cases ce : PyData.eqv l.d tb.d with
          | true =>
            rw [ce] at q
            simp -implicitDefEqProofs [fdKindIn, Pg.d, isTy, h, h1, h2, fdIsAtom, fdIsInt, e1, use_fun, sl, lcE, compL, ia, ib, kD, isNn, isNt, isNs, na, nb, ea, z, q, ce]
          | false =>
            rw [ce] at q
            simp -implicitDefEqProofs [fdKindIn, Pg.d, isTy, h, h1, h2, fdIsAtom, fdIsInt, e1, use_fun, sl, lcE, compL, ia, ib, kD, isNn, isNt, isNs, na, nb, ea, z, q, ce]
end
end Dn
/-! Den31: .. what the laws k04, k05 say of programs themselves -/
namespace Dn
open PySem
def fdLawHas (own q : Nat) : FD := { np := 3, ns := 3, md := [false, false, false], body := [.ite (.isi (.v 2) [.str]) [.ret (.cmp .isin (.v 2) (.blt .dict [.v 0]))] [],
    .ite (.isi (.v 2) [.int]) [.ret (.and (.not (.isi (.v 2) [.bool])) (.chain .le .lt (.c (.int 0)) (.v 2) (.v 1)))] [],
    .ite (.or (.not (.isi (.v 2) [.tuple])) (.or (.cmp .ne (.blt .len [.v 2]) (.c (.int 3))) (.not (.isi (.idx (.v 2) (.c (.int 0))) [.str])))) [.ret (.c (.bool false))] [],
    .ite (.cmp .eq (.idx (.v 2) (.c (.int 0))) (.c (.str "fun"))) [.ret (.and (.call q [.idx (.v 2) (.c (.int 1))]) (.call own [.v 0, .bin .add (.v 1) (.c (.int 1)), .idx (.v 2) (.c (.int 2))]))] [],
    .ite (.cmp .ne (.idx (.v 2) (.c (.int 0))) (.c (.str "use"))) [.ret (.c (.bool false))] [],
    .ret (.and (.call own [.v 0, .v 1, .idx (.v 2) (.c (.int 1))]) (.call own [.v 0, .v 1, .idx (.v 2) (.c (.int 2))]))] }
def fdLawKindd (own : Nat) : FD := { np := 3, ns := 6, md := [false, false, false], body := [.ite (.isi (.v 2) [.str]) [.ret (.idx (.blt .dict [.v 0]) (.v 2))] [],
    .ite (.isi (.v 2) [.int]) [.ret (.idx (.v 1) (.v 2))] [],
    .ite (.cmp .eq (.idx (.v 2) (.c (.int 0))) (.c (.str "fun"))) [.set 3 (.call own [.v 0, .bin .add (.v 1) (.lst [.idx (.v 2) (.c (.int 1))]), .idx (.v 2) (.c (.int 2))]),
    .ret (.ite (.cmp .is (.v 3) (.c .none)) (.c .none) (.tup [.idx (.v 2) (.c (.int 1)), .v 3]))] [],
    .par 4 5 (.call own [.v 0, .v 1, .idx (.v 2) (.c (.int 1))]) (.call own [.v 0, .v 1, .idx (.v 2) (.c (.int 2))]),
    .ite (.or (.cmp .is (.v 4) (.c .none)) (.or (.cmp .is (.v 5) (.c .none)) (.or (.isi (.v 4) [.str]) (.cmp .ne (.idx (.v 4) (.c (.int 0))) (.v 5))))) [.ret (.c .none)] [],
    .ret (.idx (.v 4) (.c (.int 1)))] }
def fdCheckForm (x hf : Nat) : FD := { np := 2, ns := 2, md := [false, false], body := [.ite (.not (.call hf [.attr "Wish" "kinds" (.v 0), .v 1, .c (.int 0)])) [.raise0 x] []] }
def fdKindOf (cf ki : Nat) : FD := { np := 2, ns := 2, md := [false, false], body := [.expr (.call cf [.v 0, .v 1]),
    .ret (.call ki [.attr "Wish" "kinds" (.v 0), .v 1, .tup []])] }
def fdTold (x ko : Nat) : FD := { np := 2, ns := 4, md := [false, false], body := [.set 2 (.tup [.c (.str "other")]),
    .tryAs [.set 2 (.tup [.c (.str "told"), .call ko [.v 0, .v 1]])] none 3 [.set 2 (.ite (.and (.isx 3 x) (.isb 3)) (.tup [.c (.str "none")]) (.tup [.c (.str "other")]))],
    .ret (.v 2)] }
def fdDueP (lh lk : Nat) : FD := { np := 2, ns := 2, md := [false, false], body := [.ite (.not (.call lh [.v 0, .c (.int 0), .v 1])) [.ret (.tup [.c (.str "none")])] [],
    .ret (.tup [.c (.str "told"), .call lk [.v 0, .lst [], .v 1]])] }
/-- what is told -/
def toldV (L : List (Str × Th)) (p : Pg) : PyData := if has (L.map (·.1)) p 0 = true then .tuple [.str "told", kD (kindOf L p [])] else .tuple [.str "none"]
section
variable {W k i : Nat} {T : List FD}
structure HasLF (T : List FD) (i : Nat) : Prop where
  ex : ∃ q, T[i]? = some (fdLawHas i q) ∧ HasLawKind T q
theorem HasLF.md (H : HasLF T i) : ∃ fd, T[i]? = some fd ∧ fd.md = [false, false, false] := by
  obtain ⟨_, h, _⟩ := H.ex
  exact ⟨_, h, rfl⟩
theorem lawHas (H : HasLF T i) {B : Nat} {L : List (Str × Th)} (nd : (L.map (·.1)).Nodup) : ∀ (p : Pg) (m k : Nat), p.ok B → p.h + 70 ≤ k → callF W T k i [.val (.tuple (prS (dl L))), .val (.int m), .val p.d] = .ok (.val (.bool (has (L.map (·.1)) p m))) [.val (.tuple (prS (dl L))), .val (.int m), .val p.d]
  | .s x, m, k, ho, hk => by
    obtain ⟨q, h, Q⟩ := H.ex
    obtain ⟨k, rfl⟩ : ∃ z, k = z + 1 := ⟨k - 1, by omega⟩
    have fk := findK_kvS (s := x) (l := dl L)
    rw [dl_names] at fk
    have ki : isIns (kvS (dl L)) = false := kvS_ins
    have la := lay_nil (l := dl L) (by rw [dl_names]; exact nd)
    rw [callF_eq h rfl]
    simp -implicitDefEqProofs [fdLawHas, Pg.d, isTy, la, ki, fk, has]
  | .i n, m, k, ho, hk => by
    obtain ⟨q, h, Q⟩ := H.ex
    obtain ⟨k, rfl⟩ : ∃ z, k = z + 1 := ⟨k - 1, by omega⟩
    rw [callF_eq h rfl]
    by_cases c : 0 ≤ n
    · simp -implicitDefEqProofs [fdLawHas, Pg.d, isTy, has, c]
    · simp -implicitDefEqProofs [fdLawHas, Pg.d, isTy, has, c]
  | .o d, m, k, ho, hk => by
    obtain ⟨q, h, Q⟩ := H.ex
    obtain ⟨k, rfl⟩ : ∃ z, k = z + 1 := ⟨k - 1, by omega⟩
    obtain ⟨o1, o2, o3, o4⟩ := ho
    show _ = CRes.ok (.val (.bool false)) _
    rw [callF_eq h rfl]
    cases d with
    | str s => cases o1
    | int n => cases o2
    | tuple l =>
      match l with
      | [] => simp -implicitDefEqProofs [fdLawHas, Pg.d, isTy]
      | [a] => simp -implicitDefEqProofs [fdLawHas, Pg.d, isTy]
      | [a, b] => simp -implicitDefEqProofs [fdLawHas, Pg.d, isTy]
      | [a, b, c] =>
        cases a with
        | str x =>
          have n1 : ¬ x = "fun" := beq_eq_false_iff_ne.mp (show (x == ("fun" : Str)) = false from o3)
          have n2 : ¬ x = "use" := beq_eq_false_iff_ne.mp (show (x == ("use" : Str)) = false from o4)
          simp -implicitDefEqProofs [fdLawHas, Pg.d, isTy, n1, n2]
        | _ => simp -implicitDefEqProofs [fdLawHas, Pg.d, isTy]
      | a :: b :: c :: x :: r =>
        have z : ¬ ((r.length : Int) + 1 + 1 + 1 + 1 = 3) := by omega
        simp -implicitDefEqProofs [fdLawHas, Pg.d, isTy, z]
    | _ => simp -implicitDefEqProofs [fdLawHas, Pg.d, isTy]
  | .f t b, m, k, ho, hk => by
    obtain ⟨q, h, Q⟩ := H.ex
    have hk : b.h + 1 + 70 ≤ k := hk
    obtain ⟨k, rfl⟩ : ∃ z, k = z + 1 := ⟨k - 1, by omega⟩
    have e5 := Q.at (W := W) (k := k) ho.1 (by have := ho.2.2.1; omega)
    have ih := lawHas H nd b (m + 1) k ho.2.2.2 (by omega)
    have mi : ((m + 1 : Nat) : Int) = (m : Int) + 1 := by omega
    rw [mi] at ih
    obtain ⟨fd, q1, q2⟩ := Q.md
    rw [callF_eq h rfl]
    cases c : t.kd with
    | true =>
      rw [c] at e5
      simp -implicitDefEqProofs [fdLawHas, Pg.d, isTy, h, q1, q2, e5, ih, has, c]
    | false =>
      rw [c] at e5
      simp -implicitDefEqProofs [fdLawHas, Pg.d, isTy, h, q1, q2, e5, has, c]
  | .u a b, m, k, ho, hk => by
    obtain ⟨q, h, Q⟩ := H.ex
    have hk : max a.h b.h + 1 + 70 ≤ k := hk
    obtain ⟨k, rfl⟩ : ∃ z, k = z + 1 := ⟨k - 1, by omega⟩
    have ia := lawHas H nd a m k ho.1 (by omega)
    have ib := lawHas H nd b m k ho.2 (by omega)
    rw [callF_eq h rfl]
    cases c : has (L.map (·.1)) a m with
    | true =>
      rw [c] at ia
      simp -implicitDefEqProofs [fdLawHas, Pg.d, isTy, h, use_fun, ia, ib, has, c]
    | false =>
      rw [c] at ia
      simp -implicitDefEqProofs [fdLawHas, Pg.d, isTy, h, use_fun, ia, has, c]
structure HasLK (T : List FD) (i : Nat) : Prop where
  ex : T[i]? = some (fdLawKindd i)
theorem lawKindd (H : HasLK T i) {B : Nat} {L : List (Str × Th)} (nd : (L.map (·.1)).Nodup) (hL : ∀ p ∈ L, p.2.pu ∧ p.2.h ≤ B) : ∀ (p : Pg) (ar : List Th) (k : Nat), p.ok B → has (L.map (·.1)) p ar.length = true → KsOk B ar → B + p.h ≤ 65 → ar.length + p.h ≤ 1000 → p.h + 3 ≤ k →
    callF W T k i [.val (.tuple (prS (dl L))), .val (.list (ar.map Th.d)), .val p.d] = .ok (.val (kD (kindOf L p ar))) [.val (.tuple (prS (dl L))), .val (.list (ar.map Th.d)), .val p.d]
  | .s x, ar, k, ho, hh, ha, hb, hl, hk => by
    have h := H.ex
    obtain ⟨k, rfl⟩ : ∃ z, k = z + 1 := ⟨k - 1, by omega⟩
    have ki : isIns (kvS (dl L)) = false := kvS_ins
    have la := lay_nil (l := dl L) (by rw [dl_names]; exact nd)
    have fl := findK_lookup (x := x) (L := L)
    obtain ⟨t, e⟩ := lookup_some (show x ∈ L.map (·.1) from of_decide_eq_true hh)
    rw [e] at fl
    show _ = CRes.ok (.val (kD (L.lookup x))) _
    rw [e, callF_eq h rfl]
    simp -implicitDefEqProofs [fdLawKindd, Pg.d, isTy, la, ki, fl, kD]
  | .i n, ar, k, ho, hh, ha, hb, hl, hk => by
    have h := H.ex
    obtain ⟨k, rfl⟩ : ∃ z, k = z + 1 := ⟨k - 1, by omega⟩
    obtain ⟨n0, n1⟩ := of_decide_eq_true (show decide (0 ≤ n ∧ n < (ar.length : Int)) = true from hh)
    have nl : n.toNat < ar.length := by omega
    show _ = CRes.ok (.val (kD ar[n.toNat]?)) _
    rw [List.getElem?_eq_getElem nl, callF_eq h rfl]
    simp -implicitDefEqProofs [fdLawKindd, Pg.d, isTy, n0, nl, kD]
  | .o d, ar, k, ho, hh, ha, hb, hl, hk => by cases hh
  | .f t b, ar, k, ho, hh, ha, hb, hl, hk => by
    have h := H.ex
    have hk : b.h + 1 + 3 ≤ k := hk
    have hb : B + (b.h + 1) ≤ 65 := hb
    have hl : ar.length + (b.h + 1) ≤ 1000 := hl
    obtain ⟨k, rfl⟩ : ∃ z, k = z + 1 := ⟨k - 1, by omega⟩
    have hh : (t.kd && has (L.map (·.1)) b (ar.length + 1)) = true := hh
    rw [Bool.and_eq_true] at hh
    have kp := ho.2.1 hh.1
    have ar2 : KsOk B (ar ++ [t]) := fun v hv => by
      rcases List.mem_append.mp hv with q | q
      · exact ha v q
      · rw [List.mem_singleton.mp q]; exact kp
    have ih := lawKindd H nd hL b (ar ++ [t]) k ho.2.2.2 (by rw [List.length_append, List.length_singleton]; exact hh.2) ar2 (by omega) (by rw [List.length_append, List.length_singleton]; omega) (by omega)
    rw [List.map_append] at ih
    have sz : (ar.map Th.d).length + 1 ≤ 16777216 := by rw [List.length_map]; omega
    show _ = CRes.ok (.val (kD ((kindOf L b (ar ++ [t])).map (.f t ·)))) _
    rw [callF_eq h rfl]
    generalize ar.map Th.d = ad at ih sz ⊢
    cases c : kindOf L b (ar ++ [t]) with
    | none =>
      rw [c] at ih
      simp -implicitDefEqProofs [kD] at ih
      simp -implicitDefEqProofs [fdLawKindd, Pg.d, isTy, h, ih, sz, kD, isNn]
    | some u =>
      rw [c] at ih
      have un := th_none (kindOf_ok hL b (ar ++ [t]) _ _ ho.2.2.2 hh.2 ar2 u c).1
      simp -implicitDefEqProofs [kD] at ih
      simp -implicitDefEqProofs [fdLawKindd, Pg.d, isTy, h, ih, sz, kD, un, Th.d]
  | .u a b, ar, k, ho, hh, ha, hb, hl, hk => by
    have h := H.ex
    have hk : max a.h b.h + 1 + 3 ≤ k := hk
    have hb : B + (max a.h b.h + 1) ≤ 65 := hb
    have hl : ar.length + (max a.h b.h + 1) ≤ 1000 := hl
    obtain ⟨k, rfl⟩ : ∃ z, k = z + 1 := ⟨k - 1, by omega⟩
    have hh : (has (L.map (·.1)) a ar.length && has (L.map (·.1)) b ar.length) = true := hh
    rw [Bool.and_eq_true] at hh
    have ia := lawKindd H nd hL a ar k ho.1 hh.1 ha (by omega) (by omega) (by omega)
    have ib := lawKindd H nd hL b ar k ho.2 hh.2 ha (by omega) (by omega) (by omega)
    show _ = CRes.ok (.val (kD (useK (kindOf L a ar) (kindOf L b ar)))) _
    rw [callF_eq h rfl]
    generalize ar.map Th.d = ad at ia ib ⊢
    cases ca : kindOf L a ar with
    | none =>
      rw [ca] at ia
      simp -implicitDefEqProofs [kD] at ia
      simp -implicitDefEqProofs [fdLawKindd, Pg.d, isTy, h, use_fun, ia, ib, kD, isNn, useK]
    | some ta =>
      rw [ca] at ia
      have pa := (kindOf_ok hL a ar _ _ ho.1 hh.1 ha ta ca)
      have na := th_none pa.1
      simp -implicitDefEqProofs [kD] at ia
      cases cb : kindOf L b ar with
      | none =>
        rw [cb] at ib
        simp -implicitDefEqProofs [kD] at ib
        have z : useK (some ta) none = none := by cases ta <;> rfl
        simp -implicitDefEqProofs [fdLawKindd, Pg.d, isTy, h, use_fun, ia, ib, kD, isNn, na, z]
      | some tb =>
        rw [cb] at ib
        have pb := (kindOf_ok hL b ar _ _ ho.2 hh.2 ha tb cb)
        have nb := th_none pb.1
        simp -implicitDefEqProofs [kD] at ib
        cases ta with
        | o d => exact False.elim pa.1
        | a s =>
          have z : useK (some (.a s)) (some tb) = none := rfl
          simp -implicitDefEqProofs [Th.d] at ia na
          simp -implicitDefEqProofs [fdLawKindd, Pg.d, isTy, h, use_fun, ia, ib, kD, isNn, isNt, isNs, na, nb, z]
        | f l r =>
          have pl : l.pu := pa.1.1
          have hl2 : max l.h r.h + 1 ≤ B + a.h := pa.2
          have q := eqD_eqv (Th.pu_sd pl) (Th.pu_sd pb.1) (by
            have := Th.pu_depth pl
            omega)
          have z : useK (some (.f l r)) (some tb) = if PyData.eqv l.d tb.d = true then some r else none := rfl
          simp -implicitDefEqProofs [Th.d] at ia na
          cases ce : PyData.eqv l.d tb.d with
          | true =>
            rw [ce] at q
            simp -implicitDefEqProofs [fdLawKindd, Pg.d, isTy, h, use_fun, ia, ib, kD, isNn, isNt, isNs, na, nb, z, q, ce]
          | false =>
            rw [ce] at q
            simp -implicitDefEqProofs [fdLawKindd, Pg.d, isTy, h, use_fun, ia, ib, kD, isNn, isNt, isNs, na, nb, z, q, ce]
/-! ### told, due -/
/-- a library's kinds -/
def LibK (B : Nat) (L : List (Str × Th)) : Prop := (L.map (·.1)).Nodup ∧ ∀ p ∈ L, p.2.pu ∧ p.2.h ≤ B
structure HasTold (T : List FD) (i : Nat) : Prop where
  ex : ∃ x ko cf ki hf, T[i]? = some (fdTold x ko) ∧ T[ko]? = some (fdKindOf cf ki) ∧ T[cf]? = some (fdCheckForm x hf) ∧ HasF T hf ∧ HasK T ki
abbrev wishD (L : List (Str × Th)) (K : PyData) : PyData := insD "Wish" (.tuple (prS (dl L))) K (kvS (dl L))
theorem checkForm {x cf hf B : Nat} {L : List (Str × Th)} {K : PyData} {p : Pg} (h : T[cf]? = some (fdCheckForm x hf)) (F : HasF T hf) (ho : p.ok B) (hk : p.h + 21 ≤ k) :
    callF W T k cf [.val (wishD L K), .val p.d] = if has (L.map (·.1)) p 0 = true then .ok (.val .none) [.val (wishD L K), .val p.d] else .exc ⟨x, .none⟩ [.val (wishD L K), .val p.d] := by
  obtain ⟨k, rfl⟩ : ∃ z, k = z + 1 := ⟨k - 1, by omega⟩
  have e := hasForm F (W := W) (l := dl L) p 0 k ho (by omega)
  rw [dl_names] at e
  have e : callF W T k hf [.val (.dict (kvS (dl L))), .val p.d, .val (.int 0)] = _ := e
  have f1 : fieldOf "Wish" "kinds" (wishD L K) = some (.dict (kvS (dl L))) := rfl
  obtain ⟨fd, q1, q2⟩ := F.md
  rw [callF_eq h rfl]
  cases c : has (L.map (·.1)) p 0 with
  | true =>
    rw [c] at e
    simp -implicitDefEqProofs [fdCheckForm, f1, q1, q2, e]
  | false =>
    rw [c] at e
    simp -implicitDefEqProofs [fdCheckForm, f1, q1, q2, e]
theorem kindOfF {x ko cf ki hf B : Nat} {L : List (Str × Th)} {K : PyData} {p : Pg} (h : T[ko]? = some (fdKindOf cf ki)) (hc : T[cf]? = some (fdCheckForm x hf)) (F : HasF T hf) (Kn : HasK T ki) (hL : LibK B L) (ho : p.ok B) (hB : B + p.h ≤ 65) (hk : p.h + 22 ≤ k) :
    callF W T k ko [.val (wishD L K), .val p.d] = if has (L.map (·.1)) p 0 = true then .ok (.val (kD (kindOf L p []))) [.val (wishD L K), .val p.d] else .exc ⟨x, .none⟩ [.val (wishD L K), .val p.d] := by
  obtain ⟨k, rfl⟩ : ∃ z, k = z + 1 := ⟨k - 1, by omega⟩
  have e := checkForm (W := W) (k := k) (L := L) (K := K) hc F ho (by omega)
  have f1 : fieldOf "Wish" "kinds" (wishD L K) = some (.dict (kvS (dl L))) := rfl
  obtain ⟨fd, q1, q2⟩ := Kn.md
  rw [callF_eq h rfl]
  cases c : has (L.map (·.1)) p 0 with
  | true =>
    rw [c] at e
    have e2 := kindIn Kn (W := W) hL.2 p [] k ho c (fun t ht => nomatch ht) hB (by simp; omega) (by omega)
    have e2 : callF W T k ki [.val (.dict (kvS (dl L))), .val p.d, .val (.tuple [])] = _ := e2
    simp -implicitDefEqProofs at e e2
    simp -implicitDefEqProofs [fdKindOf, f1, hc, fdCheckForm, q1, q2, e, e2]
  | false =>
    rw [c] at e
    simp -implicitDefEqProofs at e
    simp -implicitDefEqProofs [fdKindOf, hc, fdCheckForm, e]
theorem toldP (H : HasTold T i) {B : Nat} {L : List (Str × Th)} {K : PyData} {p : Pg} (hL : LibK B L) (ho : p.ok B) (hB : B + p.h ≤ 65) (hk : p.h + 23 ≤ k) : callF W T k i [.val (wishD L K), .val p.d] = .ok (.val (toldV L p)) [.val (wishD L K), .val p.d] := by
  obtain ⟨x, ko, cf, ki, hf, h, h1, h2, F, Kn⟩ := H.ex
  obtain ⟨k, rfl⟩ : ∃ z, k = z + 1 := ⟨k - 1, by omega⟩
  have e := kindOfF (W := W) (k := k) (K := K) h1 h2 F Kn hL ho hB (by omega)
  unfold toldV
  rw [callF_eq h rfl]
  cases c : has (L.map (·.1)) p 0 with
  | true =>
    rw [c] at e
    simp -implicitDefEqProofs at e
    simp -implicitDefEqProofs [fdTold, h1, fdKindOf, e]
  | false =>
    rw [c] at e
    simp -implicitDefEqProofs at e
    simp -implicitDefEqProofs [fdTold, h1, fdKindOf, e]
structure HasDue (T : List FD) (i : Nat) : Prop where
  ex : ∃ lh lk, T[i]? = some (fdDueP lh lk) ∧ HasLF T lh ∧ HasLK T lk
theorem dueP (H : HasDue T i) {B : Nat} {L : List (Str × Th)} {p : Pg} (hL : LibK B L) (ho : p.ok B) (hB : B + p.h ≤ 65) (hk : p.h + 71 ≤ k) : callF W T k i [.val (.tuple (prS (dl L))), .val p.d] = .ok (.val (toldV L p)) [.val (.tuple (prS (dl L))), .val p.d] := by
  obtain ⟨lh, lk, h, h1, h2⟩ := H.ex
  obtain ⟨k, rfl⟩ : ∃ z, k = z + 1 := ⟨k - 1, by omega⟩
  have e := lawHas (W := W) h1 hL.1 p 0 k ho (by omega)
  have e : callF W T k lh [.val (.tuple (prS (dl L))), .val (.int 0), .val p.d] = _ := e
  obtain ⟨fd, q1, q2⟩ := h1.md
  have q3 := h2.ex
  unfold toldV
  rw [callF_eq h rfl]
  cases c : has (L.map (·.1)) p 0 with
  | true =>
    rw [c] at e
    have e2 := lawKindd (W := W) h2 hL.1 hL.2 p [] k ho c (fun t ht => nomatch ht) hB (by simp; omega) (by omega)
    have e2 : callF W T k lk [.val (.tuple (prS (dl L))), .val (.list []), .val p.d] = _ := e2
    simp -implicitDefEqProofs at e2
    simp -implicitDefEqProofs [fdDueP, q1, q2, q3, fdLawKindd, e, e2]
  | false =>
    rw [c] at e
    simp -implicitDefEqProofs [fdDueP, q1, q2, e]
end
/-! ### a name more, a function more around -/
theorem has_more {N M : List Str} : ∀ {p : Pg} {m : Nat}, has N p m = true → has (N ++ M) p m = true
  | .s x, m, h => decide_eq_true (List.mem_append_left _ (of_decide_eq_true h))
  | .i n, m, h => h
  | .f k b, m, h => by
    have h : (k.kd && has N b (m + 1)) = true := h
    rw [Bool.and_eq_true] at h
    show (k.kd && has (N ++ M) b (m + 1)) = true
    rw [h.1, has_more h.2]
    rfl
  | .u a b, m, h => by
    have h : (has N a m && has N b m) = true := h
    rw [Bool.and_eq_true] at h
    show (has (N ++ M) a m && has (N ++ M) b m) = true
    rw [has_more h.1, has_more h.2]
    rfl
theorem lookup_app {α : Type} {x : Str} {M : List (Str × α)} : ∀ {L : List (Str × α)}, x ∈ L.map (·.1) → (L ++ M).lookup x = L.lookup x
  | (y, u) :: L, h => by
    rw [List.cons_append, List.lookup_cons, List.lookup_cons]
    by_cases c : (x == y) = true
    · rw [c]
    · rw [Bool.eq_false_iff.mpr c]
      rcases List.mem_cons.mp h with e | h
      · exact absurd (beq_iff_eq.mpr e) c
      · exact lookup_app h
theorem kindOf_more {L M : List (Str × Th)} : ∀ {p : Pg} {ar : List Th} {m : Nat}, has (L.map (·.1)) p m = true → kindOf (L ++ M) p ar = kindOf L p ar
  | .s x, ar, m, h => lookup_app (of_decide_eq_true h)
  | .i n, ar, m, h => rfl
  | .f k b, ar, m, h => by
    have h : (k.kd && has (L.map (·.1)) b (m + 1)) = true := h
    rw [Bool.and_eq_true] at h
    show (kindOf (L ++ M) b (ar ++ [k])).map _ = _
    rw [kindOf_more h.2]
    rfl
  | .u a b, ar, m, h => by
    have h : (has (L.map (·.1)) a m && has (L.map (·.1)) b m) = true := h
    rw [Bool.and_eq_true] at h
    show useK (kindOf (L ++ M) a ar) (kindOf (L ++ M) b ar) = _
    rw [kindOf_more h.1, kindOf_more h.2]
    rfl
def Pg.lift : Pg → Pg
  | .i n => .i (if 0 ≤ n then n + 1 else n)
  | .f k b => .f k b.lift
  | .u a b => .u a.lift b.lift
  | p => p
theorem lift_h : ∀ {p : Pg}, p.lift.h = p.h
  | .s _ => rfl
  | .i _ => rfl
  | .o _ => rfl
  | .f k b => by show b.lift.h + 1 = b.h + 1; rw [lift_h]
  | .u a b => by show max a.lift.h b.lift.h + 1 = max a.h b.h + 1; rw [lift_h, lift_h]
theorem lift_ok {B : Nat} : ∀ {p : Pg}, p.ok B → p.lift.ok B
  | .s _, _ => True.intro
  | .i _, _ => True.intro
  | .o _, h => h
  | .f k b, h => ⟨h.1, h.2.1, h.2.2.1, lift_ok h.2.2.2⟩
  | .u a b, h => ⟨lift_ok h.1, lift_ok h.2⟩
theorem has_lift {N : List Str} : ∀ {p : Pg} {m : Nat}, has N p m = true → has N p.lift (m + 1) = true
  | .s x, m, h => h
  | .i n, m, h => by
    obtain ⟨a, b⟩ := of_decide_eq_true (show decide (0 ≤ n ∧ n < (m : Int)) = true from h)
    show decide (0 ≤ (if 0 ≤ n then n + 1 else n) ∧ (if 0 ≤ n then n + 1 else n) < ((m + 1 : Nat) : Int)) = true
    rw [if_pos a]
    exact decide_eq_true ⟨by omega, by omega⟩
  | .f k b, m, h => by
    have h : (k.kd && has N b (m + 1)) = true := h
    rw [Bool.and_eq_true] at h
    show (k.kd && has N b.lift (m + 1 + 1)) = true
    rw [h.1, has_lift h.2]
    rfl
  | .u a b, m, h => by
    have h : (has N a m && has N b m) = true := h
    rw [Bool.and_eq_true] at h
    show (has N a.lift (m + 1) && has N b.lift (m + 1)) = true
    rw [has_lift h.1, has_lift h.2]
    rfl
theorem kindOf_lift {L : List (Str × Th)} {x : Th} : ∀ {p : Pg} {ar : List Th} {m : Nat}, has (L.map (·.1)) p m = true → kindOf L p.lift (x :: ar) = kindOf L p ar
  | .s _, ar, m, h => rfl
  | .i n, ar, m, h => by
    obtain ⟨a, b⟩ := of_decide_eq_true (show decide (0 ≤ n ∧ n < (m : Int)) = true from h)
    show (x :: ar)[(if 0 ≤ n then n + 1 else n).toNat]? = ar[n.toNat]?
    rw [if_pos a]
    have e : (n + 1).toNat = n.toNat + 1 := by omega
    rw [e]
    rfl
  | .f k b, ar, m, h => by
    have h : (k.kd && has (L.map (·.1)) b (m + 1)) = true := h
    rw [Bool.and_eq_true] at h
    show (kindOf L b.lift ((x :: ar) ++ [k])).map _ = _
    rw [List.cons_append, kindOf_lift h.2]
    rfl
  | .u a b, ar, m, h => by
    have h : (has (L.map (·.1)) a m && has (L.map (·.1)) b m) = true := h
    rw [Bool.and_eq_true] at h
    show useK (kindOf L a.lift (x :: ar)) (kindOf L b.lift (x :: ar)) = _
    rw [kindOf_lift h.1, kindOf_lift h.2]
    rfl
end Dn
/-! Den32: what the laws k04 .. k06 draw: libraries, programs of a kind -/
namespace Dn.K0
open PySem Dn
theorem dr_deep : ∀ {t : Th}, Th.dr t → t.deep = some (Th.n t, t.h)
  | .a _, _ => rfl
  | .f l r, h => by
    show deep2 l.deep r.deep = _
    rw [dr_deep h.1, dr_deep h.2]
    rfl
theorem dr_kd {t : Th} (h : Th.dr t) (n : Th.n t ≤ 10) : t.kd = true := by
  have a := Th.h_n t
  unfold Th.kd
  rw [dr_deep h]
  show decide (Th.n t ≤ 30 ∧ t.h ≤ 15) = true
  exact decide_eq_true ⟨by omega, by omega⟩
theorem drawn_sok {s : Str} (h : s ∈ drawn) : PyData.strOk s = true := by
  unfold drawn at h
  simp only [List.mem_cons, List.not_mem_nil, or_false] at h
  rcases h with rfl | rfl | rfl | rfl | rfl <;> decide +kernel
theorem dr_pu : ∀ {t : Th}, Th.dr t → t.pu
  | .a _, h => drawn_sok h
  | .f _ _, h => ⟨dr_pu h.1, dr_pu h.2⟩
/-! ### libraries -/
def names7 : List Str := ["f", "g", "h", "z", "fun", "use", "longname"]
def ks5 : List (Str × Th) := [("ka", .a "a"), ("kb", .a "b"), ("kc", .a "c"), ("kd", .a "d"), ("kz", .a "abcdefgh")]
def fdLib (dr ki : Nat) : FD := { np := 2, ns := 5, md := [true, false], body := [.par 2 3 (.lst []) (.lst [.c (.str "f"), .c (.str "g"), .c (.str "h"), .c (.str "z"), .c (.str "fun"), .c (.str "use"), .c (.str "longname")]),
    .for (.n 4) (.range1 (.call dr [.v 0, .bin .add (.v 1) (.c (.int 1))])) [.app 2 (.tup [.idx (.v 3) (.v 4), .call ki [.v 0, .bin .add (.c (.int 1)) (.call dr [.v 0, .c (.int 4)])]])],
    .ite (.cmp .gt (.call dr [.v 0, .c (.int 3)]) (.c (.int 0))) [.set 2 (.bin .add (.v 2) (.lst [.tup [.c (.str "ka"), .c (.str "a")], .tup [.c (.str "kb"), .c (.str "b")], .tup [.c (.str "kc"), .c (.str "c")], .tup [.c (.str "kd"), .c (.str "d")], .tup [.c (.str "kz"), .c (.str "abcdefgh")]]))] [],
    .ret (.blt .tuple [.v 2])] }
structure LibDr (L : List (Str × Th)) : Prop where
  nm : ∃ n, n ≤ 4 ∧ (L.map (·.1) = names7.take n ∨ L.map (·.1) = names7.take n ++ ks5.map (·.1))
  th : ∀ p ∈ L, Th.dr p.2 ∧ Th.n p.2 ≤ 4
section
variable {W k i : Nat} {T : List FD}
def LibI (most : Nat) (j : Nat) (ρ : Env) : Prop := ∃ h l x4, Hd h ∧ l.map (·.1) = names7.take j ∧ l.length = j ∧ (∀ p ∈ l, Th.dr p.2 ∧ Th.n p.2 ≤ 4) ∧ ρ = [.own h, .val (.int most), .own (.list (prS (dl l))), .own (.list (names7.map .str)), x4]
theorem prS_app {l m : List (Str × Th)} : prS (dl (l ++ m)) = prS (dl l) ++ prS (dl m) := by
  unfold prS dl
  rw [List.map_append, List.map_append]
theorem prS_len {l : List (Str × Th)} : (prS (dl l)).length = l.length := by simp [prS, dl]
theorem library {dr ki : Nat} {h : PyData} (hf : T[i]? = some (fdLib dr ki)) (hd : T[dr]? = some fdDraw) (HD : HasKindD T ki) (hh : Hd h) (hk : 20 ≤ k) : ∃ L h', LibDr L ∧ Hd h' ∧ callF W T k i [.own h, .val (.int 4)] = .ok (.val (.tuple (prS (dl L)))) [.own h', .val (.int 4)] := by
  obtain ⟨k, rfl⟩ : ∃ j, k = j + 1 := ⟨k - 1, by omega⟩
  obtain ⟨fk, f1, f2⟩ := HD.md
  obtain ⟨n, h1, hn, hh1, e1⟩ := draw (W := W) (k := k) (i := dr) (lim := 5) hd hh (by omega) (by omega) (by omega)
  have rg := range_nat (n := n) (by omega)
  obtain ⟨ρ', e, h2, l, x4, hh2, ln, ll, lt, rfl⟩ := for_run (W := W) (md := [true, false]) (en := enK W T k .stuck) (tg := .n 4) (ss := [.app 2 (.tup [.idx (.v 3) (.v 4), .call ki [.v 0, .bin .add (.c (.int 1)) (.call dr [.v 0, .c (.int 4)])]])])
    (LibI 4) (n := 0) (ds := (List.range n).map fun (j : Nat) => PyData.int (j : Int)) (ρ := [.own h1, .val (.int 4), .own (.list []), .own (.list (names7.map .str)), .un]) ⟨h1, [], .un, hh1, rfl, rfl, fun p hp => (nomatch hp), rfl⟩ fun j d ρ hj i => by
      obtain ⟨h, l, x4, hh, ln, ll, lt, rfl⟩ := i
      rw [Nat.zero_add] at ll ln
      have jn : j < n := by
        have := (List.getElem?_eq_some_iff.mp hj).1
        simpa using this
      have ed : d = .int (j : Int) := by
        have := (List.getElem?_eq_some_iff.mp hj).2
        simpa using this.symm
      have j7 : j < names7.length := by show j < 7; omega
      obtain ⟨r, h1, hr, hh1, e1⟩ := draw (W := W) (k := k) (i := dr) (lim := 4) hd hh (by omega) (by omega) (by omega)
      obtain ⟨t, h2, td, tn, hh2, e2⟩ := kind (W := W) HD (1 + r) (by omega) (by omega) k (by omega) h1 hh1
      have z : ((1 + r : Nat) : Int) = 1 + (r : Int) := by omega
      rw [z] at e2
      have ix : idxD (.list (names7.map .str)) (.int (j : Int)) = some (.str names7[j]) := by
        rw [idx_list (by omega), Int.toNat_natCast, List.getElem?_map, List.getElem?_eq_getElem j7]
        rfl
      have sz : (prS (dl l)).length < 16777216 := by rw [prS_len]; omega
      refine ⟨[.own h, .val (.int 4), .own (.list (prS (dl l))), .own (.list (names7.map .str)), .val d], by simp, [.own h2, .val (.int 4), .own (.list (prS (dl (l ++ [(names7[j], t)])))), .own (.list (names7.map .str)), .val d], ?_, h2, l ++ [(names7[j], t)], _, hh2, ?_, ?_, fun p hp => ?_, rfl⟩
      · rw [prS_app, ed]
        rw [show prS (dl [(names7[j], t)]) = [.tuple [.str names7[j], t.d]] from rfl]
        generalize prS (dl l) = P at sz ⊢
        generalize names7.map PyData.str = N at ix ⊢
        generalize names7[j] = nj at ix ⊢
        simp -implicitDefEqProofs [hd, fdDraw, f1, f2, e1, e2, ix, sz]
      · rw [Nat.zero_add, List.map_append, ln]
        show names7.take j ++ [names7[j]] = names7.take (j + 1)
        rw [List.take_succ, List.getElem?_eq_getElem j7]
        rfl
      · rw [List.length_append, List.length_singleton]; omega
      · rcases List.mem_append.mp hp with q | q
        · exact lt p q
        · rw [List.mem_singleton.mp q]
          exact ⟨td, by show Th.n t ≤ 4; omega⟩
  rw [List.length_map, List.length_range, Nat.zero_add] at ln ll
  obtain ⟨m, h3, hm, hh3, e3⟩ := draw (W := W) (k := k) (i := dr) (lim := 3) hd hh2 (by omega) (by omega) (by omega)
  have sz : (prS (dl l)).length ≤ 100 := by rw [prS_len]; omega
  unfold names7 at e
  rw [callF_eq hf rfl]
  by_cases c : m = 0
  · refine ⟨l, h3, ⟨⟨n, by omega, .inl ln⟩, lt⟩, hh3, ?_⟩
    generalize prS (dl l) = P at e sz ⊢
    subst c
    simp -implicitDefEqProofs at e e3
    simp -implicitDefEqProofs [fdLib, hd, fdDraw, e1, rg, e, e3]
  · have c1 : 0 < m := by omega
    refine ⟨l ++ ks5, h3, ⟨⟨n, by omega, .inr (by rw [List.map_append, ln])⟩, fun p hp => ?_⟩, hh3, ?_⟩
    · rcases List.mem_append.mp hp with q | q
      · exact lt p q
      · unfold ks5 at q
        simp only [List.mem_cons, List.not_mem_nil, or_false] at q
        rcases q with rfl | rfl | rfl | rfl | rfl <;> exact ⟨by simp [Th.dr, drawn], by decide⟩
    · rw [prS_app]
      rw [show prS (dl ks5) = [.tuple [.str "ka", .str "a"], .tuple [.str "kb", .str "b"], .tuple [.str "kc", .str "c"], .tuple [.str "kd", .str "d"], .tuple [.str "kz", .str "abcdefgh"]] from rfl]
      generalize prS (dl l) = P at e sz ⊢
      have sz2 : P.length ≤ 16777211 := by omega
      simp -implicitDefEqProofs at e e3
      simp -implicitDefEqProofs [fdLib, hd, fdDraw, e1, rg, e, e3, c1, sz2]
end
def names12 : List Str := names7 ++ ks5.map (·.1)
theorem LibDr.mem {L : List (Str × Th)} (h : LibDr L) {p : Str × Th} (hp : p ∈ L) : p.1 ∈ names12 := by
  obtain ⟨n, _, e | e⟩ := h.nm
  · have : p.1 ∈ L.map (·.1) := List.mem_map.mpr ⟨p, hp, rfl⟩
    rw [e] at this
    exact List.mem_append_left _ (List.mem_of_mem_take this)
  · have : p.1 ∈ L.map (·.1) := List.mem_map.mpr ⟨p, hp, rfl⟩
    rw [e] at this
    rcases List.mem_append.mp this with q | q
    · exact List.mem_append_left _ (List.mem_of_mem_take q)
    · exact List.mem_append_right _ q
theorem LibDr.sub {L : List (Str × Th)} (h : LibDr L) : (L.map (·.1)).Sublist names12 := by
  obtain ⟨n, _, e | e⟩ := h.nm
  · rw [e]; exact (List.take_sublist _ _).trans (List.sublist_append_left _ _)
  · rw [e]; exact List.Sublist.append (List.take_sublist _ _) (List.Sublist.refl _)
theorem LibDr.nd {L : List (Str × Th)} (h : LibDr L) : (L.map (·.1)).Nodup := (show names12.Nodup by unfold names12 names7 ks5; decide).sublist h.sub
theorem names12_ok {s : Str} (h : s ∈ names12) : nm s = true ∧ PyData.strOk s = true := by
  unfold names12 names7 ks5 at h
  simp only [List.map_cons, List.map_nil, List.cons_append, List.nil_append, List.mem_cons, List.not_mem_nil, or_false] at h
  rcases h with rfl | rfl | rfl | rfl | rfl | rfl | rfl | rfl | rfl | rfl | rfl | rfl <;> exact ⟨by kernel_rfl, by decide +kernel⟩
theorem LibDr.len {L : List (Str × Th)} (h : LibDr L) : L.length ≤ 9 := by
  obtain ⟨n, n4, e | e⟩ := h.nm
  · have := congrArg List.length e
    rw [List.length_map, List.length_take] at this
    omega
  · have := congrArg List.length e
    rw [List.length_map, List.length_append, List.length_take] at this
    have e5 : (ks5.map (·.1)).length = 5 := rfl
    omega
theorem LibDr.good {L : List (Str × Th)} (h : LibDr L) : GoodL L := ⟨h.nd, fun p hp => by
  have a := h.th p hp
  have b := names12_ok (h.mem hp)
  exact ⟨b.1, dr_kd a.1 (by omega), Th.dr_ok a.1, b.2⟩, by have := h.len; omega⟩
theorem LibDr.libK {L : List (Str × Th)} (h : LibDr L) {B : Nat} (hB : 4 ≤ B) : LibK B L := ⟨h.nd, fun p hp => by
  have a := h.th p hp
  have b := Th.h_n p.2
  exact ⟨dr_pu a.1, by omega⟩⟩
/-! ### how many arrows lead to a kind -/
def dropN : Nat → Th → Option Th
  | 0, t => some t
  | n + 1, .f _ r => dropN n r
  | _ + 1, _ => none
def fdDrops : FD := { np := 2, ns := 4, md := [false, false], body := [.par 2 3 (.lst []) (.c (.int 0)),
    .while (.not (.isi (.v 0) [.str])) [.set 2 (.bin .add (.v 2) (.bin .mul (.lst [.v 3]) (.blt .int [.cmp .eq (.v 0) (.v 1)]))),
    .par 0 3 (.idx (.v 0) (.c (.int 1))) (.bin .add (.v 3) (.c (.int 1)))],
    .ret (.bin .add (.v 2) (.bin .mul (.lst [.v 3]) (.blt .int [.cmp .eq (.v 0) (.v 1)])))] }
theorem rep01 {a : PyData} {c : Bool} : binD .mul (.list [a]) (.int (if c = true then 1 else 0)) = some (.fr (.list (if c = true then [a] else []))) := by
  cases c <;> rfl
def DropI (its K : Th) (x : PyData) : Prop := ∃ n : Nat, x = .int n ∧ dropN n its = some K ∧ n ≤ its.h
theorem dropN_le : ∀ {n : Nat} {t u : Th}, dropN n t = some u → n ≤ t.h
  | 0, t, u, h => Nat.zero_le _
  | n + 1, .f l r, u, h => by
    have := dropN_le (n := n) (t := r) h
    show n + 1 ≤ max l.h r.h + 1
    omega
  | n + 1, .a _, u, h => by cases h
  | n + 1, .o _, u, h => by cases h
theorem dropN_succ : ∀ {n : Nat} {t l r : Th}, dropN n t = some (.f l r) → dropN (n + 1) t = some r
  | 0, .f _ _, l, r, h => by cases h; rfl
  | n + 1, .f _ r', l, r, h => dropN_succ (n := n) (t := r') h
  | 0, .a _, _, _, h => by cases h
  | 0, .o _, _, _, h => by cases h
  | n + 1, .a _, _, _, h => by cases h
  | n + 1, .o _, _, _, h => by cases h
section
variable {W k i : Nat} {T : List FD}
theorem drops_end {its u K : Th} {n : Nat} {acc : List PyData} (hu : u.pu) (hK : K.pu) (hd : dropN n its = some u) (ha : ∀ x ∈ acc, DropI its K x) : ∀ x ∈ acc ++ (if PyData.eqv u.d K.d = true then [PyData.int (n : Int)] else []), DropI its K x := fun x hx => by
  rcases List.mem_append.mp hx with q | q
  · exact ha x q
  · by_cases c : PyData.eqv u.d K.d = true
    · rw [if_pos c] at q
      have e := Th.pu_inj hu hK ((sd_eqv (Th.pu_sd hu) (Th.pu_sd hK)).mp c)
      rw [List.mem_singleton.mp q]
      exact ⟨n, rfl, by rw [← e]; exact hd, dropN_le hd⟩
    · rw [if_neg c] at q
      cases q
theorem if_len {c : Prop} [Decidable c] {a : PyData} : (if c then [a] else ([] : List PyData)).length ≤ 1 := by split <;> simp
theorem drops_loop {en : En} {its K : Th} (hK : K.pu) : ∀ (u : Th) (n fuel : Nat) (acc : List PyData), u.pu → dropN n its = some u → u.h < fuel → u.h ≤ 60 → acc.length + u.h ≤ 1000 → (∀ x ∈ acc, DropI its K x) →
    ∃ u' n' acc', u'.pu ∧ u'.h ≤ 60 ∧ dropN n' its = some u' ∧ acc'.length ≤ acc.length + u.h ∧ (∀ x ∈ acc', DropI its K x) ∧ whileE W [false, false] en (.not (.isi (.v 0) [.str])) [.set 2 (.bin .add (.v 2) (.bin .mul (.lst [.v 3]) (.blt .int [.cmp .eq (.v 0) (.v 1)]))), .par 0 3 (.idx (.v 0) (.c (.int 1))) (.bin .add (.v 3) (.c (.int 1)))] fuel
      [.val u.d, .val K.d, .own (.list acc), .val (.int n)] = .ok .nx [.val u'.d, .val K.d, .own (.list acc'), .val (.int n')]
  | .a s, n, fuel, acc, hu, hd, hf, hh, hl, ha => by
    obtain ⟨fuel, rfl⟩ : ∃ j, fuel = j + 1 := ⟨fuel - 1, by omega⟩
    refine ⟨.a s, n, acc, hu, hh, hd, by omega, ha, ?_⟩
    rw [whileE_succ]
    simp -implicitDefEqProofs [Dn.Th.d, isTy]
  | .o d, n, fuel, acc, hu, hd, hf, hh, hl, ha => False.elim hu
  | .f l r, n, fuel, acc, hu, hd, hf, hh, hl, ha => by
    have hf : max l.h r.h + 1 < fuel := hf
    have hh' : max l.h r.h + 1 ≤ 60 := hh
    have hl : acc.length + (max l.h r.h + 1) ≤ 1000 := hl
    obtain ⟨fuel, rfl⟩ : ∃ j, fuel = j + 1 := ⟨fuel - 1, by omega⟩
    have q := eqD_eqv (Th.pu_sd hu) (Th.pu_sd hK) (by have := Th.pu_depth hu; have h2 : (Dn.Th.f l r).h ≤ 60 := hh; omega)
    have lz : (if PyData.eqv (Dn.Th.f l r).d K.d = true then [PyData.int (n : Int)] else ([] : List PyData)).length ≤ 1 := if_len
    obtain ⟨u', n', acc', a1, a2, a3, a4, a5, e⟩ := drops_loop (en := en) hK r (n + 1) fuel (acc ++ (if PyData.eqv (Dn.Th.f l r).d K.d = true then [PyData.int (n : Int)] else [])) hu.2 (dropN_succ hd) (by omega) (by omega) (by rw [List.length_append]; omega) (drops_end hu hK hd ha)
    refine ⟨u', n', acc', a1, a2, a3, ?_, a5, ?_⟩
    · rw [List.length_append] at a4
      show acc'.length ≤ acc.length + (max l.h r.h + 1)
      omega
    · have sz : acc.length + (if PyData.eqv (PyData.tuple [l.d, r.d]) K.d = true then [PyData.int (n : Int)] else ([] : List PyData)).length ≤ 16777216 := by
        have lz : (if PyData.eqv (PyData.tuple [l.d, r.d]) K.d = true then [PyData.int (n : Int)] else ([] : List PyData)).length ≤ 1 := if_len
        omega
      have q : eqD (.tuple [l.d, r.d]) K.d = some (PyData.eqv (.tuple [l.d, r.d]) K.d) := q
      have e : whileE W [false, false] en _ _ fuel [.val r.d, .val K.d, .own (.list (acc ++ (if PyData.eqv (PyData.tuple [l.d, r.d]) K.d = true then [PyData.int (n : Int)] else []))), .val (.int ((n + 1 : Nat) : Int))] = _ := e
      have ni : ((n + 1 : Nat) : Int) = (n : Int) + 1 := by omega
      rw [ni] at e
      rw [whileE_succ]
      generalize PyData.eqv (.tuple [l.d, r.d]) K.d = c at q e sz
      have rp := rep01 (a := .int (n : Int)) (c := c)
      generalize (if c = true then [PyData.int (n : Int)] else ([] : List PyData)) = z at e sz rp
      simp -implicitDefEqProofs [Dn.Th.d, isTy, q, rp, sz]
      exact e
theorem dropsF {its K : Th} (h : T[i]? = some fdDrops) (hi : its.pu) (hK : K.pu) (hh : its.h ≤ 60) (hW : 100 ≤ W) (hk : 1 ≤ k) : ∃ l e, callF W T k i [.val its.d, .val K.d] = .ok (.fr (.list l)) [.val e, .val K.d] ∧ l.length ≤ 61 ∧ ∀ x ∈ l, DropI its K x := by
  obtain ⟨k, rfl⟩ : ∃ j, k = j + 1 := ⟨k - 1, by omega⟩
  obtain ⟨u', n', acc', a1, a2, a3, a4, a5, e⟩ := drops_loop (W := W) (en := enK W T k .stuck) (its := its) hK its 0 W [] hi rfl (by omega) hh (by simp; omega) (fun x hx => nomatch hx)
  have q := eqD_eqv (Th.pu_sd a1) (Th.pu_sd hK) (by have := Th.pu_depth a1; omega)
  have a4 : acc'.length ≤ 0 + its.h := a4
  refine ⟨acc' ++ (if PyData.eqv u'.d K.d = true then [PyData.int (n' : Int)] else []), u'.d, ?_, by rw [List.length_append]; have : (if PyData.eqv u'.d K.d = true then [PyData.int (n' : Int)] else ([] : List PyData)).length ≤ 1 := if_len; omega, drops_end a1 hK a3 a5⟩
  have sz : acc'.length + (if PyData.eqv u'.d K.d = true then [PyData.int (n' : Int)] else ([] : List PyData)).length ≤ 16777216 := by
    have lz : (if PyData.eqv u'.d K.d = true then [PyData.int (n' : Int)] else ([] : List PyData)).length ≤ 1 := if_len
    omega
  have e : whileE W [false, false] (enK W T k .stuck) _ _ W [.val its.d, .val K.d, .own (.list []), .val (.int 0)] = _ := e
  rw [callF_eq h rfl]
  generalize PyData.eqv u'.d K.d = c at q sz ⊢
  have rp := rep01 (a := .int (n' : Int)) (c := c)
  generalize (if c = true then [PyData.int (n' : Int)] else ([] : List PyData)) = z at sz rp ⊢
  simp -implicitDefEqProofs [fdDrops, e, q, rp, sz]
end
end Dn.K0
/-! Den33: programs of a kind, drawn -/
namespace Dn
open PySem Dn
mutual
/-- a bound of how long its text is -/
def zz : PyData → Nat
  | .none => 4
  | .bool _ => 5
  | .int i => (PyData.int i).shown.length
  | .str x => (PyData.str x).shown.length
  | .list l => zzA l + 3
  | .tuple l => zzA l + 3
  | .dict [] => 2
  | .dict (p :: l) => (PyData.dict (p :: l)).shown.length
def zzA : List PyData → Nat
  | [] => 0
  | d :: l => zz d + 2 + zzA l
end
theorem listText_le : ∀ ts : List Str, (listText ts).length ≤ piled ts + 2
  | [] => by decide
  | t :: ts => by
    have h : (textFrom 1 ("[" ++ "" ++ t) ts).length = _ := textFrom_length_pos ts 1 ("[" ++ "" ++ t) (by omega)
    have e : (("[" : Str) ++ ("" : String) ++ t).length = 1 + t.length := by
      rw [strLen_append, strLen_append]
      show 1 + 0 + t.length = _
      omega
    show (textFrom 1 ("[" ++ "" ++ t) ts ++ "]").length ≤ _
    rw [strLen_append, h, piled_cons]
    have e1 : (("]" : String) : Str).length = 1 := rfl
    have e2 : (("[" : Str) ++ ("" : Str) ++ t).length = 1 + t.length := e
    omega
theorem tupleText_le : ∀ ts : List Str, (tupleText ts).length ≤ piled ts + 3 := fun ts => by
  unfold tupleText
  rw [strLen_append, strLen_append]
  have e1 : (("(" : String) : Str).length = 1 := rfl
  have e2 : ((if (ts.length == 1) = true then ",)" else ")" : String) : Str).length ≤ 2 := by
    cases c : (ts.length == 1) <;> decide
  cases ts with
  | nil => show 1 + (Str.join ", " []).length + _ ≤ _; have : (Str.join (", " : String) []).length = 0 := rfl; omega
  | cons t ts =>
    have := join_length_add (t :: ts) (List.cons_ne_nil _ _)
    omega
mutual
theorem shown_zz : ∀ d : PyData, d.shown.length ≤ zz d
  | .none => by decide
  | .bool b => by cases b <;> decide
  | .int i => Nat.le_refl _
  | .str x => Nat.le_refl _
  | .list l => by
    have h := shown_zzA l
    have e := listText_le (PyData.shownAll l)
    show (listText (PyData.shownAll l)).length ≤ zzA l + 3
    omega
  | .tuple l => by
    have h := shown_zzA l
    have e := tupleText_le (PyData.shownAll l)
    show (tupleText (PyData.shownAll l)).length ≤ zzA l + 3
    omega
  | .dict [] => by decide
  | .dict (p :: l) => Nat.le_refl _
theorem shown_zzA : ∀ l : List PyData, piled (PyData.shownAll l) ≤ zzA l
  | [] => Nat.le_refl _
  | d :: l => by
    have h1 := shown_zz d
    have h2 := shown_zzA l
    show piled (d.shown :: PyData.shownAll l) ≤ zz d + 2 + zzA l
    rw [piled_cons]
    omega
end
end Dn
namespace Dn.K0
open PySem Dn PyProof.Rows
abbrev mdM : List Bool := [true, false, false, false, false]
abbrev bW1 (dp : Nat) : List MS := [.ext 5 (.lc [15] (.n 15) (.ex (.call dp [.v 7, .v 3])) [] (.tup [.v 6, .v 15]))]
abbrev bW2 (dp : Nat) : List MS := [.ext 5 (.bin .mul (.lc [15] (.n 15) (.ex (.call dp [.v 7, .v 3])) [] (.tup [.v 8, .v 15])) (.c (.int 2)))]
abbrev sFun (own : Nat) : MS := .ite (.and (.not (.isi (.v 3) [.str])) (.or (.cmp .lt (.v 9) (.c (.int 3))) (.or (.cmp .eq (.v 5) (.lst [])) (.cmp .lt (.v 4) (.c (.int 2)))))) [.set 10 (.call own [.v 0, .v 1, .bin .add (.v 2) (.lst [.idx (.v 3) (.c (.int 0))]), .idx (.v 3) (.c (.int 1)), .bin .sub (.v 4) (.c (.int 1))]),
    .ret (.ite (.cmp .is (.v 10) (.c .none)) (.c .none) (.tup [.c (.str "fun"), .idx (.v 3) (.c (.int 0)), .v 10]))] []
abbrev sHalf (own dr ki : Nat) : MS := .ite (.and (.cmp .gt (.v 4) (.c (.int 3))) (.cmp .eq (.v 9) (.c (.int 4)))) [.set 11 (.call ki [.v 0, .bin .add (.c (.int 1)) (.call dr [.v 0, .c (.int 2)])]),
    .set 12 (.call own [.v 0, .v 1, .v 2, .v 11, .bin .fdiv (.v 4) (.c (.int 2))]),
    .set 10 (.call own [.v 0, .v 1, .bin .add (.v 2) (.lst [.v 11]), .v 3, .bin .fdiv (.v 4) (.c (.int 2))]),
    .ite (.and (.cmp .isnot (.v 12) (.c .none)) (.cmp .isnot (.v 10) (.c .none))) [.ret (.tup [.c (.str "use"), .tup [.c (.str "fun"), .v 11, .v 10], .v 12])] []] []
abbrev bSp (own : Nat) : List MS := [.set 12 (.ite (.cmp .gt (.v 4) (.neg (.c (.int 6)))) (.call own [.v 0, .v 1, .v 2, .idx (.v 7) (.c (.int 0)), .bin .sub (.v 4) (.c (.int 2))]) (.c .none)),
    .ite (.cmp .is (.v 12) (.c .none)) [.ret (.c .none)] [],
    .par 16 7 (.tup [.c (.str "use"), .v 16, .v 12]) (.idx (.v 7) (.c (.int 1)))]
abbrev bTail (own so : Nat) : List MS := [.set 13 (.lc [18] (.n 18) (.ex (.v 5)) [.cmp .eq (.idx (.v 18) (.c (.int 1))) (.blt .min [.lc [19] (.n 19) (.ex (.v 5)) [] (.idx (.v 19) (.c (.int 1)))])] (.v 18)),
    .unpack [14, 15] (.call so [.v 0, .ite (.cmp .gt (.v 4) (.c (.int 1))) (.v 5) (.v 13)]),
    .par 16 7 (.v 14) (.ite (.isi (.v 14) [.str]) (.idx (.blt .dict [.v 1]) (.v 14)) (.idx (.v 2) (.v 14))),
    .for (.n 17) (.range1 (.v 15)) (bSp own),
    .ret (.v 16)]
def fdMade (own dr so ki dp : Nat) : FD := { np := 5, ns := 20, md := mdM, body := .set 5 (.lst []) :: .for (.t [6, 7]) (.ex (.v 1)) (bW1 dp) :: .for (.t [8, 7]) (.enum (.v 2)) (bW2 dp) :: .set 9 (.call dr [.v 0, .c (.int 5)]) :: sFun own :: sHalf own dr ki :: .ite (.cmp .eq (.v 5) (.lst [])) [.ret (.c .none)] [] :: bTail own so }
/-! ### ways -/
def HeadI (L : List (Str × Th)) (ar : List Th) (hd : Pg) (its : Th) : Prop := (∃ s, hd = .s s ∧ L.lookup s = some its ∧ PyData.strOk s = true) ∨ ∃ j : Nat, hd = .i j ∧ ar[j]? = some its
def WayI (L : List (Str × Th)) (ar : List Th) (K : Th) (w : Pg × Nat) : Prop := ∃ its, HeadI L ar w.1 its ∧ dropN w.2 its = some K
def wayD (w : Pg × Nat) : PyData := .tuple [w.1.d, .int w.2]
def ArOk (ar : List Th) : Prop := ∀ t ∈ ar, Th.dr t ∧ Th.n t ≤ 4
def mu (b : Int) (n : Nat) : Nat := (b + 6).toNat * 10 + n
def Hb (b : Int) (n : Nat) : Nat := if -6 < b then 3 * (b + 6).toNat + n + 3 else n
def Zb (b : Int) (n : Nat) : Nat := 25 * n + (if -6 < b then 150 * 2 ^ (b + 6).toNat else 0)
def MadeP (L : List (Str × Th)) (ar : List Th) (K : Th) (H Z : Nat) (p : Pg) : Prop := p.ok 5 ∧ has (L.map (·.1)) p ar.length = true ∧ kindOf L p ar = some K ∧ p.h ≤ H ∧ zz p.d ≤ Z
def MadeR (L : List (Str × Th)) (ar : List Th) (K : Th) (H Z : Nat) (x : PyData) : Prop := x = .none ∨ ∃ p : Pg, x = p.d ∧ MadeP L ar K H Z p
theorem MadeP.le {L : List (Str × Th)} {ar : List Th} {K : Th} {H H' Z Z' : Nat} {p : Pg} (h : MadeP L ar K H Z p) (le : H ≤ H') (lz : Z ≤ Z') : MadeP L ar K H' Z' p := ⟨h.1, h.2.1, h.2.2.1, Nat.le_trans h.2.2.2.1 le, Nat.le_trans h.2.2.2.2 lz⟩
theorem names_z : ∀ s ∈ names12, zz (.str s) ≤ 10 := by decide +kernel
theorem drawn_z : ∀ s ∈ drawn, zz (.str s) ≤ 10 := by decide +kernel
theorem int_z {n : Nat} (h : n < 10000) : zz (.int (n : Nat)) ≤ 10 := by
  show (PyData.int (n : Nat)).shown.length ≤ 10
  have := toString_length_le (v := (n : Int)) (by omega) (k := 4) (by omega) (by omega)
  simp only [PyData.shown]
  exact Nat.le_trans this (by omega)
theorem dr_z : ∀ {t : Th}, Th.dr t → zz t.d + 7 ≤ 17 * Th.n t
  | .a s, h => by
    have := drawn_z s h
    show zz (.str s) + 7 ≤ 17 * 1
    omega
  | .f l r, h => by
    have a := dr_z h.1
    have b := dr_z h.2
    show zz l.d + 2 + (zz r.d + 2 + 0) + 3 + 7 ≤ 17 * (Th.n l + Th.n r)
    omega
theorem z_f {k : Th} {p : Pg} : zz (Pg.f k p).d = zz k.d + zz p.d + 14 := by
  have e : zz (.str "fun") = 5 := by decide +kernel
  show zz (.str "fun") + 2 + (zz k.d + 2 + (zz p.d + 2 + 0)) + 3 = _
  omega
theorem z_u {p q : Pg} : zz (Pg.u p q).d = zz p.d + zz q.d + 14 := by
  have e : zz (.str "use") = 5 := by decide +kernel
  show zz (.str "use") + 2 + (zz p.d + 2 + (zz q.d + 2 + 0)) + 3 = _
  omega
theorem head_its {L : List (Str × Th)} {ar : List Th} {hd : Pg} {its : Th} (hL : LibDr L) (ha : ArOk ar) (h : HeadI L ar hd its) : Th.dr its ∧ Th.n its ≤ 4 := by
  rcases h with ⟨s, _, e, _⟩ | ⟨j, _, e⟩
  · exact hL.th _ (lookup_mem e)
  · exact ha _ (List.mem_of_getElem? e)
theorem head_made {L : List (Str × Th)} {ar : List Th} {hd : Pg} {its : Th} (hL : LibDr L) (hal : ar.length ≤ 1000) (h : HeadI L ar hd its) : MadeP L ar its 0 10 hd := by
  rcases h with ⟨s, rfl, e, _⟩ | ⟨j, rfl, e⟩
  · exact ⟨True.intro, decide_eq_true (List.mem_map.mpr ⟨_, lookup_mem e, rfl⟩), e, Nat.le_refl _, names_z _ (hL.mem (lookup_mem e))⟩
  · have jl := (List.getElem?_eq_some_iff.mp e).1
    refine ⟨True.intro, decide_eq_true ⟨by omega, by omega⟩, ?_, Nat.le_refl _, int_z (by omega)⟩
    show ar[((j : Nat) : Int).toNat]? = some its
    rw [Int.toNat_natCast]
    exact e
theorem pg_none : ∀ {p : Pg}, p.ok 5 → has N p m = true → isNone p.d = false
  | .s _, _, _ => rfl
  | .i _, _, _ => rfl
  | .f _ _, _, _ => rfl
  | .u _ _, _, _ => rfl
  | .o _, _, h => by cases h
theorem wayD_lay {w : Pg × Nat} {L : List (Str × Th)} {ar : List Th} {K : Th} (h : WayI L ar K w) : (wayD w).canLay0 = true := by
  obtain ⟨its, ⟨s, e, _, so⟩ | ⟨j, e, _⟩, _⟩ := h
  · show (w.1.d.canLay0 && (true && true)) = true
    rw [e]
    show (PyData.strOk s && _) = true
    rw [so]
    rfl
  · show (w.1.d.canLay0 && (true && true)) = true
    rw [e]
    rfl
theorem ways_lay {L : List (Str × Th)} {ar : List Th} {K : Th} : ∀ {wl : List (Pg × Nat)}, (∀ w ∈ wl, WayI L ar K w) → PyData.canLayAll0 (wl.map wayD) = true
  | [], _ => rfl
  | w :: wl, h => by
    show ((wayD w).canLay0 && PyData.canLayAll0 (wl.map wayD)) = true
    rw [wayD_lay (h w (List.mem_cons_self ..)), ways_lay fun x hx => h x (List.mem_cons_of_mem _ hx)]
    rfl
theorem ways_nil {L : List (Str × Th)} {ar : List Th} {K : Th} {wl : List (Pg × Nat)} (h : ∀ w ∈ wl, WayI L ar K w) : eqD (.list (wl.map wayD)) (.list []) = some wl.isEmpty := by
  have e : eqD (.list (wl.map wayD)) (.list []) = some (PyData.eqv (.list (wl.map wayD)) (.list [])) := eqD_of rfl (ways_lay h) rfl (Nat.le_trans (Nat.min_le_right _ _) (by decide))
  rw [e]
  cases wl <;> simp [PyData.eqv, PyData.eqvAll]
section
variable {W k i : Nat} {T : List FD}
/-- one of some, of more -/
theorem someM {h : PyData} {l : List PyData} (H : HasSome T i) (hh : Hd h) (h0 : 0 < l.length) (h1 : l.length ≤ 1000000) (hk : 2 ≤ k) : ∃ x h', x ∈ l ∧ Hd h' ∧ callF W T k i [.own h, .val (.list l)] = .ok (.val x) [.own h', .val (.list l)] := by
  obtain ⟨k, rfl⟩ : ∃ j, k = j + 1 := ⟨k - 1, by omega⟩
  obtain ⟨dr, hs, hd⟩ := H.ex
  obtain ⟨r, h', hr, hh', e⟩ := draw (W := W) (k := k) (lim := l.length) hd hh (by omega) (by omega) (by omega)
  have hr : r < l.length := by omega
  refine ⟨l[r], h', List.getElem_mem hr, hh', ?_⟩
  rw [callF_eq hs rfl]
  simp -implicitDefEqProofs [fdSome, hd, fdDraw, e, hr]
/-! ### the walk over the heads -/
theorem wlc {en : En} {x6 : PyData} {ds : List PyData} {s0 s1 s2 s3 s4 s5 s7 s8 s9 s10 s11 s12 s13 s14 s15 s16 s17 s18 s19 : Slot} (hl : ds.length ≤ 1000) : lcE mdM en [15] (.n 15) [] (.tup [.v 6, .v 15]) ds [s0, s1, s2, s3, s4, s5, .val x6, s7, s8, s9, s10, s11, s12, s13, s14, s15, s16, s17, s18, s19]
    = .ok (.fr (.list (ds.map fun d => .tuple [x6, d]))) [s0, s1, s2, s3, s4, s5, .val x6, s7, s8, s9, s10, s11, s12, s13, s14, s15, s16, s17, s18, s19] := by
  refine lc_map (ρ0 := [s0, s1, s2, s3, s4, s5, .val x6, s7, s8, s9, s10, s11, s12, s13, s14, .un, s16, s17, s18, s19]) _ rfl (by simp; omega) rfl rfl fun d hd => ?_
  exact ⟨[s0, s1, s2, s3, s4, s5, .val x6, s7, s8, s9, s10, s11, s12, s13, s14, .val d, s16, s17, s18, s19], by simp, [s0, s1, s2, s3, s4, s5, .val x6, s7, s8, s9, s10, s11, s12, s13, s14, .val d, s16, s17, s18, s19], by simp -implicitDefEqProofs, by simp⟩
theorem wlc8 {en : En} {x8 : PyData} {ds : List PyData} {s0 s1 s2 s3 s4 s5 s6 s7 s9 s10 s11 s12 s13 s14 s15 s16 s17 s18 s19 : Slot} (hl : ds.length ≤ 1000) : lcE mdM en [15] (.n 15) [] (.tup [.v 8, .v 15]) ds [s0, s1, s2, s3, s4, s5, s6, s7, .val x8, s9, s10, s11, s12, s13, s14, s15, s16, s17, s18, s19]
    = .ok (.fr (.list (ds.map fun d => .tuple [x8, d]))) [s0, s1, s2, s3, s4, s5, s6, s7, .val x8, s9, s10, s11, s12, s13, s14, s15, s16, s17, s18, s19] := by
  refine lc_map (ρ0 := [s0, s1, s2, s3, s4, s5, s6, s7, .val x8, s9, s10, s11, s12, s13, s14, .un, s16, s17, s18, s19]) _ rfl (by simp; omega) rfl rfl fun d hd => ?_
  exact ⟨[s0, s1, s2, s3, s4, s5, s6, s7, .val x8, s9, s10, s11, s12, s13, s14, .val d, s16, s17, s18, s19], by simp, [s0, s1, s2, s3, s4, s5, s6, s7, .val x8, s9, s10, s11, s12, s13, s14, .val d, s16, s17, s18, s19], by simp -implicitDefEqProofs, by simp⟩
theorem ways_of {L : List (Str × Th)} {ar : List Th} {K its : Th} {hd : Pg} (hI : HeadI L ar hd its) : ∀ {l : List PyData}, (∀ x ∈ l, DropI its K x) → ∃ wl : List (Pg × Nat), (l.map fun d => PyData.tuple [hd.d, d]) = wl.map wayD ∧ (∀ w ∈ wl, WayI L ar K w) ∧ wl.length = l.length
  | [], _ => ⟨[], rfl, fun w hw => (nomatch hw), rfl⟩
  | x :: l, h => by
    obtain ⟨wl, e, g, n⟩ := ways_of hI fun y hy => h y (List.mem_cons_of_mem _ hy)
    obtain ⟨m, rfl, dn, _⟩ := h x (List.mem_cons_self ..)
    refine ⟨(hd, m) :: wl, by rw [List.map_cons, List.map_cons, e]; rfl, fun w hw => ?_, by rw [List.length_cons, List.length_cons, n]⟩
    rcases List.mem_cons.mp hw with rfl | hw
    · exact ⟨its, hI, dn⟩
    · exact g w hw
def W1I (L : List (Str × Th)) (ar : List Th) (K : Th) (h lib arD : PyData) (b : Int) (M : Nat → Nat) (r : Slot → Slot → Slot → List Slot) (j : Nat) (ρ : Env) : Prop := ∃ (wl : List (Pg × Nat)) (x6 x7 x8 : Slot), (∀ w ∈ wl, WayI L ar K w) ∧ wl.length ≤ M j ∧ ρ = .own h :: .val lib :: .val arD :: .val K.d :: .val (.int b) :: .own (.list (wl.map wayD)) :: r x6 x7 x8
abbrev rest (x9 x10 x11 x12 x13 x14 x15 x16 x17 x18 x19 : Slot) : Slot → Slot → Slot → List Slot := fun x6 x7 x8 => [x6, x7, x8, x9, x10, x11, x12, x13, x14, x15, x16, x17, x18, x19]
theorem walk1 {dp : Nat} {L : List (Str × Th)} {ar : List Th} {K : Th} {h arD : PyData} {b : Int} {x6 x7 x8 x9 x10 x11 x12 x13 x14 x15 x16 x17 x18 x19 : Slot} (hd : T[dp]? = some fdDrops) (hL : LibDr L) (hK : Th.dr K) (hW : 100 ≤ W) (hk : 2 ≤ k) :
    ∃ (wl : List (Pg × Nat)) (y6 y7 y8 : Slot), (∀ w ∈ wl, WayI L ar K w) ∧ wl.length ≤ 1000 ∧ forE W mdM (enK W T k .stuck) (.t [6, 7]) (bW1 dp) (prS (dl L)) [.own h, .val (.tuple (prS (dl L))), .val arD, .val K.d, .val (.int b), .own (.list []), x6, x7, x8, x9, x10, x11, x12, x13, x14, x15, x16, x17, x18, x19]
      = .ok .nx [.own h, .val (.tuple (prS (dl L))), .val arD, .val K.d, .val (.int b), .own (.list (wl.map wayD)), y6, y7, y8, x9, x10, x11, x12, x13, x14, x15, x16, x17, x18, x19] := by
  obtain ⟨ρ', e, wl, y6, y7, y8, g, n, rfl⟩ := for_run (W := W) (md := mdM) (en := enK W T k .stuck) (tg := .t [6, 7]) (ss := bW1 dp) (W1I L ar K h (.tuple (prS (dl L))) arD b (fun j => 61 * j) (rest x9 x10 x11 x12 x13 x14 x15 x16 x17 x18 x19)) (n := 0) (ds := prS (dl L))
    (ρ := [.own h, .val (.tuple (prS (dl L))), .val arD, .val K.d, .val (.int b), .own (.list []), x6, x7, x8, x9, x10, x11, x12, x13, x14, x15, x16, x17, x18, x19]) ⟨[], x6, x7, x8, fun w hw => (nomatch hw), Nat.le_refl _, rfl⟩ fun j d ρ hj i => by
      obtain ⟨wl, y6, y7, y8, g, n, rfl⟩ := i
      have n : wl.length ≤ 61 * (0 + j) := n
      have hm := List.mem_of_getElem? hj
      have jl : j < 9 := by
        have := (List.getElem?_eq_some_iff.mp hj).1
        rw [prS_len] at this
        have := hL.len
        omega
      unfold prS dl at hm
      rw [List.map_map] at hm
      obtain ⟨⟨s, its⟩, hp, rfl⟩ := List.mem_map.mp hm
      have th := hL.th (s, its) hp
      have ih : its.h ≤ 3 := by have := Th.h_n its; have := th.2; simp only at this; omega
      have lk : L.lookup s = some its := by
        obtain ⟨t, e⟩ := lookup_some (x := s) (L := L) (List.mem_map.mpr ⟨_, hp, rfl⟩)
        have m2 := lookup_mem e
        have := hL.nd
        have e2 : its = t := by
          have nd := List.pairwise_map.mp this
          refine Classical.byContradiction fun ne => ?_
          obtain ⟨a, ha, ea⟩ := List.mem_iff_getElem.mp hp
          obtain ⟨c, hc, ec⟩ := List.mem_iff_getElem.mp m2
          rcases Nat.lt_trichotomy a c with z | z | z
          · exact List.pairwise_iff_getElem.mp nd a c ha hc z (by rw [ea, ec])
          · subst z
            rw [ea] at ec
            cases ec
            exact ne rfl
          · exact List.pairwise_iff_getElem.mp nd c a hc ha z (by rw [ea, ec])
        rw [e, e2]
      obtain ⟨l, eo, e1, l61, dI⟩ := dropsF (W := W) (k := k) (i := dp) hd (dr_pu th.1) (dr_pu hK) (by simp only; omega) hW (by omega)
      obtain ⟨wl2, e2, g2, n2⟩ := ways_of (L := L) (ar := ar) (hd := .s s) (.inl ⟨s, rfl, lk, (names12_ok (hL.mem hp)).2⟩) dI
      have lc := wlc (en := enK W T k .stuck) (x6 := .str s) (ds := l) (s0 := .own h) (s1 := .val (.tuple (prS (dl L)))) (s2 := .val arD) (s3 := .val K.d) (s4 := .val (.int b)) (s5 := .own (.list (wl.map wayD))) (s7 := .val its.d) (s8 := y8) (s9 := x9) (s10 := x10) (s11 := x11) (s12 := x12) (s13 := x13) (s14 := x14) (s15 := x15) (s16 := x16) (s17 := x17) (s18 := x18) (s19 := x19) (by omega)
      have e2 : (l.map fun d => PyData.tuple [.str s, d]) = wl2.map wayD := e2
      rw [e2] at lc
      have sz : (wl.map wayD).length + (wl2.map wayD).length ≤ 16777216 := by rw [List.length_map, List.length_map, n2]; omega
      refine ⟨[.own h, .val (.tuple (prS (dl L))), .val arD, .val K.d, .val (.int b), .own (.list (wl.map wayD)), .val (.str s), .val its.d, y8, x9, x10, x11, x12, x13, x14, x15, x16, x17, x18, x19], by simp [mdM], [.own h, .val (.tuple (prS (dl L))), .val arD, .val K.d, .val (.int b), .own (.list ((wl ++ wl2).map wayD)), .val (.str s), .val its.d, y8, x9, x10, x11, x12, x13, x14, x15, x16, x17, x18, x19], ?_, wl ++ wl2, _, _, _, fun w hw => ?_, ?_, rfl⟩
      · rw [List.map_append]
        generalize wl2.map wayD = A at lc sz ⊢
        generalize wl.map wayD = C at lc sz ⊢
        generalize prS (dl L) = P at lc ⊢
        simp -implicitDefEqProofs [hd, fdDrops, e1, lc, sz]
      · rcases List.mem_append.mp hw with q | q
        · exact g w q
        · exact g2 w q
      · show (wl ++ wl2).length ≤ 61 * (0 + j + 1)
        rw [List.length_append, n2]
        have : 61 * (0 + j + 1) = 61 * (0 + j) + 61 := by omega
        omega
  exact ⟨wl, y6, y7, y8, g, by have n : wl.length ≤ 61 * (0 + (prS (dl L)).length) := n; rw [prS_len] at n; have := hL.len; omega, e⟩
theorem walk2 {dp : Nat} {L : List (Str × Th)} {ar : List Th} {K : Th} {h lib : PyData} {b : Int} {wl0 : List (Pg × Nat)} {x6 x7 x8 x9 x10 x11 x12 x13 x14 x15 x16 x17 x18 x19 : Slot} (hd : T[dp]? = some fdDrops) (ha : ArOk ar) (hK : Th.dr K) (hl : ar.length ≤ 1000) (g0 : ∀ w ∈ wl0, WayI L ar K w) (n0 : wl0.length ≤ 1000) (hW : 100 ≤ W) (hk : 2 ≤ k) :
    ∃ (wl : List (Pg × Nat)) (y6 y7 y8 : Slot), (∀ w ∈ wl, WayI L ar K w) ∧ wl.length ≤ 200000 ∧ forE W mdM (enK W T k .stuck) (.t [8, 7]) (bW2 dp) ((ar.map Dn.Th.d).zipIdx.map fun (d, j) => PyData.tuple [.int (j : Nat), d]) [.own h, .val lib, .val (.list (ar.map Dn.Th.d)), .val K.d, .val (.int b), .own (.list (wl0.map wayD)), x6, x7, x8, x9, x10, x11, x12, x13, x14, x15, x16, x17, x18, x19]
      = .ok .nx [.own h, .val lib, .val (.list (ar.map Dn.Th.d)), .val K.d, .val (.int b), .own (.list (wl.map wayD)), y6, y7, y8, x9, x10, x11, x12, x13, x14, x15, x16, x17, x18, x19] := by
  obtain ⟨ρ', e, wl, y6, y7, y8, g, n, rfl⟩ := for_run (W := W) (md := mdM) (en := enK W T k .stuck) (tg := .t [8, 7]) (ss := bW2 dp) (W1I L ar K h lib (.list (ar.map Dn.Th.d)) b (fun j => 1000 + 122 * j) (rest x9 x10 x11 x12 x13 x14 x15 x16 x17 x18 x19)) (n := 0) (ds := (ar.map Dn.Th.d).zipIdx.map fun (d, j) => PyData.tuple [.int (j : Nat), d])
    (ρ := [.own h, .val lib, .val (.list (ar.map Dn.Th.d)), .val K.d, .val (.int b), .own (.list (wl0.map wayD)), x6, x7, x8, x9, x10, x11, x12, x13, x14, x15, x16, x17, x18, x19]) ⟨wl0, x6, x7, x8, g0, n0, rfl⟩ fun j d ρ hj i => by
      obtain ⟨wl, y6, y7, y8, g, n, rfl⟩ := i
      have n : wl.length ≤ 1000 + 122 * (0 + j) := n
      have jl : j < ar.length := by
        have := (List.getElem?_eq_some_iff.mp hj).1
        simpa using this
      have ed : d = .tuple [.int (j : Nat), ar[j].d] := by
        have := (List.getElem?_eq_some_iff.mp hj).2
        simpa using this.symm
      subst ed
      have th := ha ar[j] (List.getElem_mem jl)
      have ih : ar[j].h ≤ 3 := by have := Th.h_n ar[j]; omega
      obtain ⟨l, eo, e1, l61, dI⟩ := dropsF (W := W) (k := k) (i := dp) hd (dr_pu th.1) (dr_pu hK) (by omega) hW (by omega)
      obtain ⟨wl2, e2, g2, n2⟩ := ways_of (L := L) (ar := ar) (hd := .i j) (.inr ⟨j, rfl, List.getElem?_eq_getElem jl⟩) dI
      have lc := wlc8 (en := enK W T k .stuck) (x8 := .int (j : Nat)) (ds := l) (s0 := .own h) (s1 := .val lib) (s2 := .val (.list (ar.map Dn.Th.d))) (s3 := .val K.d) (s4 := .val (.int b)) (s5 := .own (.list (wl.map wayD))) (s6 := y6) (s7 := .val ar[j].d) (s9 := x9) (s10 := x10) (s11 := x11) (s12 := x12) (s13 := x13) (s14 := x14) (s15 := x15) (s16 := x16) (s17 := x17) (s18 := x18) (s19 := x19) (by omega)
      have e2 : (l.map fun d => PyData.tuple [.int (j : Nat), d]) = wl2.map wayD := e2
      rw [e2] at lc
      have sz : (wl.map wayD).length + ((wl2.map wayD).length + (wl2.map wayD).length) ≤ 16777216 := by rw [List.length_map, List.length_map, n2]; omega
      have rp := bin_rep2 (a := wl2.map wayD) (by rw [List.length_map, n2]; omega)
      refine ⟨[.own h, .val lib, .val (.list (ar.map Dn.Th.d)), .val K.d, .val (.int b), .own (.list (wl.map wayD)), y6, .val ar[j].d, .val (.int (j : Nat)), x9, x10, x11, x12, x13, x14, x15, x16, x17, x18, x19], by simp [mdM], [.own h, .val lib, .val (.list (ar.map Dn.Th.d)), .val K.d, .val (.int b), .own (.list ((wl ++ (wl2 ++ wl2)).map wayD)), y6, .val ar[j].d, .val (.int (j : Nat)), x9, x10, x11, x12, x13, x14, x15, x16, x17, x18, x19], ?_, wl ++ (wl2 ++ wl2), _, _, _, fun w hw => ?_, ?_, rfl⟩
      · rw [List.map_append, List.map_append]
        generalize wl2.map wayD = A at lc sz rp ⊢
        generalize wl.map wayD = C at lc sz ⊢
        generalize ar.map Dn.Th.d = P at lc ⊢
        generalize ar[j].d = td at e1 lc ⊢
        simp -implicitDefEqProofs [hd, fdDrops, e1, lc, rp, sz]
      · rcases List.mem_append.mp hw with q | q
        · exact g w q
        · rcases List.mem_append.mp q with q | q
          · exact g2 w q
          · exact g2 w q
      · show (wl ++ (wl2 ++ wl2)).length ≤ 1000 + 122 * (0 + j + 1)
        rw [List.length_append, List.length_append, n2]
        omega
  refine ⟨wl, y6, y7, y8, g, ?_, e⟩
  simp at n
  omega
end
end Dn.K0
/-! Den34: .. put together -/
namespace Dn.K0
open PySem Dn
/-- what a draw of lesser measure gives -/
def IHyp (W : Nat) (T : List FD) (own k : Nat) (L : List (Str × Th)) (M : Nat) : Prop := ∀ (ar : List Th) (K : Th) (b : Int) (h : PyData), Hd h → ArOk ar → Th.dr K → Th.n K ≤ 5 → b ≤ 8 → mu b (Th.n K) < M → ar.length + mu b (Th.n K) ≤ 600 →
  ∃ x h', MadeR L ar K (Hb b (Th.n K)) (Zb b (Th.n K)) x ∧ Hd h' ∧ callF W T k own [.own h, .val (.tuple (prS (dl L))), .val (.list (ar.map Dn.Th.d)), .val K.d, .val (.int b)] = .ok (.val x) [.own h', .val (.tuple (prS (dl L))), .val (.list (ar.map Dn.Th.d)), .val K.d, .val (.int b)]
theorem dropN_f {n : Nat} {t u : Th} (h : dropN (n + 1) t = some u) : ∃ l r, t = .f l r ∧ dropN n r = some u := by
  cases t with
  | f l r => exact ⟨l, r, rfl, h⟩
  | _ => cases h
theorem made_use {L : List (Str × Th)} {ar : List Th} {l r : Th} {p q : Pg} {A B Y Z : Nat} (hp : MadeP L ar (.f l r) A Y p) (hq : MadeP L ar l B Z q) (hl : l.pu) : MadeP L ar r (max A B + 1) (Y + Z + 14) (.u p q) := by
  obtain ⟨p1, p2, p3, p4, p5⟩ := hp
  obtain ⟨q1, q2, q3, q4, q5⟩ := hq
  refine ⟨⟨p1, q1⟩, ?_, ?_, ?_, ?_⟩
  · show (has _ p ar.length && has _ q ar.length) = true
    rw [p2, q2]
    rfl
  · show useK (kindOf L p ar) (kindOf L q ar) = some r
    rw [p3, q3]
    show (if PyData.eqv l.d l.d = true then some r else none) = some r
    rw [if_pos ((sd_eqv (Th.pu_sd hl) (Th.pu_sd hl)).mpr rfl)]
  · show max p.h q.h + 1 ≤ _
    omega
  · rw [z_u]
    omega
theorem made_fun {L : List (Str × Th)} {ar : List Th} {l r : Th} {p : Pg} {A Z : Nat} (hp : MadeP L (ar ++ [l]) r A Z p) (hl : Th.dr l) (n : Th.n l ≤ 5) : MadeP L ar (.f l r) (A + 1) (Z + 17 * Th.n l + 7) (.f l p) := by
  obtain ⟨p1, p2, p3, p4, p5⟩ := hp
  have kk := dr_kd hl (by omega)
  have hh := Th.h_n l
  rw [List.length_append, List.length_singleton] at p2
  refine ⟨⟨Th.dr_ok hl, fun _ => ⟨dr_pu hl, by omega⟩, by omega, p1⟩, ?_, ?_, Nat.succ_le_succ p4, ?_⟩
  · show (l.kd && has _ p (ar.length + 1)) = true
    rw [kk, p2]
    rfl
  · show (kindOf L p (ar ++ [l])).map (Dn.Th.f l ·) = some (Dn.Th.f l r)
    rw [p3]
    rfl
  · have := dr_z hl
    rw [z_f]
    omega
def Zx (x n : Nat) : Nat := 25 * n + (if x = 0 then 0 else 150 * 2 ^ x)
theorem zb_x {b : Int} {n : Nat} : Zb b n = Zx (b + 6).toNat n := by
  unfold Zb Zx
  by_cases c : -6 < b
  · rw [if_pos c, if_neg (by omega)]
  · rw [if_neg c, if_pos (by omega)]
theorem zx_two {x n : Nat} (h0 : 0 < x) (hn : 1 ≤ n) : 10 + 3 * (14 + Zx (x - 2) 3) ≤ Zx x n := by
  match x, h0 with
  | 1, _ => unfold Zx; simp
  | 2, _ => unfold Zx; simp
  | y + 3, _ =>
    have e1 : Zx (y + 3 - 2) 3 = 75 + 150 * (2 ^ y * 2) := by
      show 25 * 3 + (if y + 1 = 0 then 0 else 150 * 2 ^ (y + 1)) = _
      rw [if_neg (Nat.succ_ne_zero y), Nat.pow_succ]
    have e2 : Zx (y + 3) n = 25 * n + 150 * (2 ^ y * 2 * 2 * 2) := by
      unfold Zx
      rw [if_neg (by omega), Nat.pow_succ, Nat.pow_succ, Nat.pow_succ]
    have p := Nat.one_le_two_pow (n := y)
    rw [e1, e2]
    generalize 2 ^ y = Y at *
    omega
theorem zx_half {x z n m : Nat} (h0 : 9 < x) (hz : z + 2 ≤ x) (h1 : 0 < z) (hm : m ≤ 2) (hn : n ≤ 5) : Zx z n + 17 * m + 7 + Zx z m + 14 ≤ Zx x n := by
  have e : 2 ^ x = 2 ^ (x - 2) * 2 * 2 := by
    rw [← Nat.pow_succ, ← Nat.pow_succ]
    congr 1
    omega
  have p : 2 ^ z ≤ 2 ^ (x - 2) := Nat.pow_le_pow_right (by omega) (by omega)
  have p2 : 2 ^ 8 ≤ 2 ^ (x - 2) := Nat.pow_le_pow_right (by omega) (by omega)
  unfold Zx
  rw [if_neg (by omega), if_neg (by omega), e]
  have e8 : 2 ^ 8 = 256 := rfl
  generalize 2 ^ z = Z at *
  generalize 2 ^ (x - 2) = X at *
  omega
theorem zb_two {b : Int} {n : Nat} (h0 : -6 < b) (hn : 1 ≤ n) : 10 + 3 * (14 + Zb (b - 2) 3) ≤ Zb b n := by
  rw [zb_x, zb_x, show (b - 2 + 6).toNat = (b + 6).toNat - 2 by omega]
  exact zx_two (by omega) hn
theorem zb_half {b : Int} {n m : Nat} (h0 : 3 < b) (hm : m ≤ 2) (hn : n ≤ 5) : Zb (b / 2) n + 17 * m + 7 + Zb (b / 2) m + 14 ≤ Zb b n := by
  rw [zb_x, zb_x, zb_x]
  exact zx_half (by omega) (by omega) (by omega) hm hn
section
variable {W k : Nat} {T : List FD}
/-- uses, one behind another -/
theorem spine {own : Nat} {fo : FD} {L : List (Str × Th)} {ar : List Th} {K : Th} {b : Int} {A : Nat} {y5 y6 y8 y9 y10 y11 y13 y14 y15 y18 y19 : Slot} (ho : T[own]? = some fo) (hm : fo.md = mdM) (hL : LibDr L) (ha : ArOk ar) (hb : b ≤ 8)
    (hA : -6 < b → Hb (b - 2) 3 ≤ A) {Z : Nat} (hZ : -6 < b → Zb (b - 2) 3 ≤ Z) {M : Nat} (ih : IHyp W T own k L M) (hM : -6 < b → (mu (b - 2) 3 < M ∧ ar.length + mu (b - 2) 3 ≤ 600)) :
    ∀ (ds : List PyData) (its : Th) (p : Pg) (j : Nat) (h : PyData) (y12 y17 : Slot), Hd h → dropN ds.length its = some K → Th.dr its → Th.n its ≤ 4 → MadeP L ar its (if j = 0 then 0 else A + j) (10 + j * (14 + Z)) p → (0 < ds.length + j → ds.length + j ≤ 3) →
    ∃ h' x ρ', Hd h' ∧ forE W mdM (enK W T k .stuck) (.n 17) (bSp own) ds [.own h, .val (.tuple (prS (dl L))), .val (.list (ar.map Dn.Th.d)), .val K.d, .val (.int b), y5, y6, .val its.d, y8, y9, y10, y11, y12, y13, y14, y15, .val p.d, y17, y18, y19]
      = .ok x (.own h' :: .val (.tuple (prS (dl L))) :: .val (.list (ar.map Dn.Th.d)) :: .val K.d :: .val (.int b) :: ρ') ∧ (x = .ret (.val .none) ∨ x = .nx ∧ (0 < ds.length → -6 < b) ∧ ∃ (p' : Pg) (z5 z6 z7 z8 z9 z10 z11 z12 z13 z14 z15 z17 z18 z19 : Slot), MadeP L ar K (if ds.length + j = 0 then 0 else A + (ds.length + j)) (10 + (ds.length + j) * (14 + Z)) p' ∧ ρ' = [z5, z6, z7, z8, z9, z10, z11, z12, z13, z14, z15, .val p'.d, z17, z18, z19])
  | [], its, p, j, h, y12, y17, hh, hd, hi, hn, hp, hj => by
    have e : its = K := Option.some.inj hd
    subst e
    refine ⟨h, .nx, _, hh, rfl, .inr ⟨rfl, fun z => absurd z (Nat.lt_irrefl _), p, y5, y6, _, y8, y9, y10, y11, y12, y13, y14, y15, y17, y18, y19, ?_, rfl⟩⟩
    have z : ([] : List PyData).length + j = j := Nat.zero_add j
    rw [z]
    exact hp
  | d :: ds, its, p, j, h, y12, y17, hh, hd, hi, hn, hp, hj => by
    obtain ⟨l, r, rfl, hd2⟩ := dropN_f (n := ds.length) hd
    have hj3 := hj (by rw [List.length_cons]; omega)
    rw [List.length_cons] at hj3
    have nl : Th.n l + Th.n r ≤ 4 := hn
    have nr := Th.n_pos r
    have nl1 := Th.n_pos l
    have asg : assignT mdM (.n 17) d [.own h, .val (.tuple (prS (dl L))), .val (.list (ar.map Dn.Th.d)), .val K.d, .val (.int b), y5, y6, .val (Dn.Th.f l r).d, y8, y9, y10, y11, y12, y13, y14, y15, .val p.d, y17, y18, y19] = some [.own h, .val (.tuple (prS (dl L))), .val (.list (ar.map Dn.Th.d)), .val K.d, .val (.int b), y5, y6, .val (.tuple [l.d, r.d]), y8, y9, y10, y11, y12, y13, y14, y15, .val p.d, .val d, y18, y19] := by
      simp [mdM, Dn.Th.d]
    rw [forE_cons, asg, on_some]
    by_cases c : -6 < b
    · obtain ⟨m1, m2⟩ := hM c
      have mono : mu (b - 2) (Th.n l) ≤ mu (b - 2) 3 := by unfold mu; omega
      obtain ⟨x, h1, hx, hh1, e1⟩ := ih ar l (b - 2) h hh ha hi.1 (by omega) (by omega) (by omega) (by omega)
      generalize hlib : prS (dl L) = lib at e1 ⊢
      generalize har : ar.map Dn.Th.d = arD at e1 ⊢
      rcases hx with rfl | ⟨q, rfl, hq⟩
      · refine ⟨h1, .ret (.val .none), [y5, y6, .val (.tuple [l.d, r.d]), y8, y9, y10, y11, .val .none, y13, y14, y15, .val p.d, .val d, y18, y19], hh1, ?_, .inl rfl⟩
        simp -implicitDefEqProofs [ho, hm, c, e1, isNn]
      · have qn := pg_none hq.1 hq.2.1
        have hb3 : Hb (b - 2) (Th.n l) ≤ A := by
          have a1 : Hb (b - 2) (Th.n l) ≤ Hb (b - 2) 3 := by unfold Hb; split <;> omega
          exact Nat.le_trans a1 (hA c)
        have hz3 : Zb (b - 2) (Th.n l) ≤ Z := Nat.le_trans (by unfold Zb; split <;> omega) (hZ c)
        have mp : MadeP L ar r (if j + 1 = 0 then 0 else A + (j + 1)) (10 + (j + 1) * (14 + Z)) (.u p q) := (made_use hp (hq.le hb3 hz3) (dr_pu hi.1)).le (by
          rw [if_neg (Nat.succ_ne_zero j)]
          split <;> omega) (by rw [Nat.add_mul]; omega)
        obtain ⟨h2, x2, ρ2, hh2, e2, alt⟩ := spine (y5 := y5) (y6 := y6) (y8 := y8) (y9 := y9) (y10 := y10) (y11 := y11) (y13 := y13) (y14 := y14) (y15 := y15) (y18 := y18) (y19 := y19) ho hm hL ha hb hA hZ ih hM ds r (.u p q) (j + 1) h1 (.val q.d) (.val d) hh1 hd2 hi.2 (by omega) mp (fun _ => by omega)
        rw [hlib, har] at e2
        refine ⟨h2, x2, ρ2, hh2, ?_, ?_⟩
        · have qd : (Pg.u p q).d = .tuple [.str "use", p.d, q.d] := rfl
          rw [qd] at e2
          generalize q.d = qd at e1 e2 qn ⊢
          generalize p.d = pd at e2 ⊢
          simp -implicitDefEqProofs [ho, hm, c, e1, qn]
          exact e2
        · rcases alt with rfl | ⟨rfl, _, p', z5, z6, z7, z8, z9, z10, z11, z12, z13, z14, z15, z17, z18, z19, hp', rfl⟩
          · exact .inl rfl
          · refine .inr ⟨rfl, fun _ => c, p', z5, z6, z7, z8, z9, z10, z11, z12, z13, z14, z15, z17, z18, z19, ?_, rfl⟩
            have z : ds.length + (j + 1) = (d :: ds).length + j := by rw [List.length_cons]; omega
            rw [z] at hp'
            exact hp'
    · refine ⟨h, .ret (.val .none), [y5, y6, .val (.tuple [l.d, r.d]), y8, y9, y10, y11, .val .none, y13, y14, y15, .val p.d, .val d, y18, y19], hh, ?_, .inl rfl⟩
      generalize prS (dl L) = lib
      generalize ar.map Dn.Th.d = arD
      simp -implicitDefEqProofs [c, isNn]
/-! ### the last part: a head is drawn, and used -/
def limD : PyData → PyData
  | .tuple [_, x] => x
  | _ => .none
def limP (m : Int) : PyData → Bool
  | .tuple [_, .int n] => decide (n = m)
  | _ => false
theorem tailD {own so : Nat} {fo : FD} {L : List (Str × Th)} {ar : List Th} {K : Th} {b : Int} {wl : List (Pg × Nat)} {h : PyData} {y6 y7 y8 y9 y10 y11 y12 y13 y14 y15 y16 y17 y18 y19 : Slot} (ho : T[own]? = some fo) (hm : fo.md = mdM) (HS : HasSome T so) (hL : LibDr L) (ha : ArOk ar) (hb : b ≤ 8) (hh : Hd h)
    {M : Nat} (ih : IHyp W T own k L M) (hM : -6 < b → (mu (b - 2) 3 < M ∧ ar.length + mu (b - 2) 3 ≤ 600)) (g : ∀ w ∈ wl, WayI L ar K w) (n0 : wl ≠ []) (n1 : wl.length ≤ 200000) (hal : ar.length ≤ 1000) (hk : 5 ≤ k) :
    ∃ h' x ρ', Hd h' ∧ MadeR L ar K (Hb b (Th.n K)) (Zb b (Th.n K)) x ∧ execSs W mdM (enK W T k .stuck) (bTail own so) [.own h, .val (.tuple (prS (dl L))), .val (.list (ar.map Dn.Th.d)), .val K.d, .val (.int b), .own (.list (wl.map wayD)), y6, y7, y8, y9, y10, y11, y12, y13, y14, y15, y16, y17, y18, y19]
      = .ok (.ret (.val x)) (.own h' :: .val (.tuple (prS (dl L))) :: .val (.list (ar.map Dn.Th.d)) :: .val K.d :: .val (.int b) :: ρ') := by
  -- the least number of arrows
  obtain ⟨w0, wl', hw⟩ := List.exists_cons_of_ne_nil n0
  have mi : ∃ m : Int, minI (wl.map fun w => ((w.2 : Nat) : Int)) = some m ∧ m ∈ wl.map fun w => ((w.2 : Nat) : Int) := by
    rw [hw, List.map_cons]
    exact ⟨_, rfl, (fold_min _ _).1⟩
  obtain ⟨m, em, hm2⟩ := mi
  obtain ⟨wm, hwm, ewm⟩ := List.mem_map.mp hm2
  have lims : (wl.map wayD).map limD = wl.map fun w => PyData.int ((w.2 : Nat) : Int) := by
    rw [List.map_map]
    rfl
  have io := intsOf_map (fun w : Pg × Nat => ((w.2 : Nat) : Int)) wl
  have inner : ∀ (ρ : Env) (z19 : Slot) (d : PyData), lcE mdM (enK W T k .stuck) [19] (.n 19) [] (.idx (.v 19) (.c (.int 1))) (wl.map wayD) [.own h, .val (.tuple (prS (dl L))), .val (.list (ar.map Dn.Th.d)), .val K.d, .val (.int b), .val (.list (wl.map wayD)), y6, y7, y8, y9, y10, y11, y12, y13, y14, y15, y16, y17, .val d, z19]
      = .ok (.fr (.list ((wl.map wayD).map limD))) [.own h, .val (.tuple (prS (dl L))), .val (.list (ar.map Dn.Th.d)), .val K.d, .val (.int b), .val (.list (wl.map wayD)), y6, y7, y8, y9, y10, y11, y12, y13, y14, y15, y16, y17, .val d, z19] := fun ρ z19 d => by
    refine lc_map (ρ0 := [.own h, .val (.tuple (prS (dl L))), .val (.list (ar.map Dn.Th.d)), .val K.d, .val (.int b), .val (.list (wl.map wayD)), y6, y7, y8, y9, y10, y11, y12, y13, y14, y15, y16, y17, .val d, .un]) _ rfl (by rw [List.length_map]; show wl.length ≤ 16777216; omega) rfl rfl fun x hx => ?_
    obtain ⟨w, _, rfl⟩ := List.mem_map.mp hx
    refine ⟨[.own h, .val (.tuple (prS (dl L))), .val (.list (ar.map Dn.Th.d)), .val K.d, .val (.int b), .val (.list (wl.map wayD)), y6, y7, y8, y9, y10, y11, y12, y13, y14, y15, y16, y17, .val d, .val (wayD w)], by simp [mdM], [.own h, .val (.tuple (prS (dl L))), .val (.list (ar.map Dn.Th.d)), .val K.d, .val (.int b), .val (.list (wl.map wayD)), y6, y7, y8, y9, y10, y11, y12, y13, y14, y15, y16, y17, .val d, .val (wayD w)], ?_, by simp⟩
    generalize wl.map wayD = P
    simp -implicitDefEqProofs [wayD, limD]
  have few : lcE mdM (enK W T k .stuck) [18] (.n 18) [.cmp .eq (.idx (.v 18) (.c (.int 1))) (.blt .min [.lc [19] (.n 19) (.ex (.v 5)) [] (.idx (.v 19) (.c (.int 1)))])] (.v 18) (wl.map wayD) [.own h, .val (.tuple (prS (dl L))), .val (.list (ar.map Dn.Th.d)), .val K.d, .val (.int b), .val (.list (wl.map wayD)), y6, y7, y8, y9, y10, y11, y12, y13, y14, y15, y16, y17, y18, y19]
      = .ok (.fr (.list (((wl.map wayD).filter (limP m)).map id))) [.own h, .val (.tuple (prS (dl L))), .val (.list (ar.map Dn.Th.d)), .val K.d, .val (.int b), .val (.list (wl.map wayD)), y6, y7, y8, y9, y10, y11, y12, y13, y14, y15, y16, y17, y18, y19] := by
    refine lc_filter (ρ0 := [.own h, .val (.tuple (prS (dl L))), .val (.list (ar.map Dn.Th.d)), .val K.d, .val (.int b), .val (.list (wl.map wayD)), y6, y7, y8, y9, y10, y11, y12, y13, y14, y15, y16, y17, .un, y19]) _ _ rfl (by rw [List.length_map]; show wl.length ≤ 16777216; omega) rfl rfl fun x hx => ?_
    obtain ⟨w, _, rfl⟩ := List.mem_map.mp hx
    have inn := inner [] y19 (wayD w)
    rw [lims] at inn
    have pm : limP m (wayD w) = decide (((w.2 : Nat) : Int) = m) := rfl
    refine ⟨[.own h, .val (.tuple (prS (dl L))), .val (.list (ar.map Dn.Th.d)), .val K.d, .val (.int b), .val (.list (wl.map wayD)), y6, y7, y8, y9, y10, y11, y12, y13, y14, y15, y16, y17, .val (wayD w), y19], [.own h, .val (.tuple (prS (dl L))), .val (.list (ar.map Dn.Th.d)), .val K.d, .val (.int b), .val (.list (wl.map wayD)), y6, y7, y8, y9, y10, y11, y12, y13, y14, y15, y16, y17, .val (wayD w), y19], by simp [mdM], ?_, fun _ => by simp, fun _ => ⟨[.own h, .val (.tuple (prS (dl L))), .val (.list (ar.map Dn.Th.d)), .val K.d, .val (.int b), .val (.list (wl.map wayD)), y6, y7, y8, y9, y10, y11, y12, y13, y14, y15, y16, y17, .val (wayD w), y19], by generalize wl.map wayD = P; simp -implicitDefEqProofs, by simp⟩⟩
    rw [pm]
    generalize wl.map (fun w => PyData.int ((w.2 : Nat) : Int)) = li at inn io
    generalize wl.map (fun w => ((w.2 : Nat) : Int)) = ns at io em
    generalize wl.map wayD = P at inn ⊢
    unfold wayD at inn ⊢
    generalize ((w.2 : Nat) : Int) = wi at inn ⊢
    by_cases c : wi = m
    · subst c
      simp -implicitDefEqProofs [inn, io, em]
    · simp -implicitDefEqProofs [inn, io, em, c]
  rw [List.map_id] at few
  have fne : 0 < ((wl.map wayD).filter (limP m)).length := List.length_pos_of_mem (a := wayD wm) (List.mem_filter.mpr ⟨List.mem_map.mpr ⟨wm, hwm, rfl⟩, decide_eq_true ewm⟩)
  have flen : ((wl.map wayD).filter (limP m)).length ≤ 200000 := Nat.le_trans (List.length_filter_le _ _) (by rw [List.length_map]; exact n1)
  -- one is drawn
  have pick : ∃ (w : Pg × Nat) (h1 : PyData) (z13 : Slot) (z5 : Slot), w ∈ wl ∧ Hd h1 ∧ execSs W mdM (enK W T k .stuck) (bTail own so) [.own h, .val (.tuple (prS (dl L))), .val (.list (ar.map Dn.Th.d)), .val K.d, .val (.int b), .own (.list (wl.map wayD)), y6, y7, y8, y9, y10, y11, y12, y13, y14, y15, y16, y17, y18, y19]
      = execSs W mdM (enK W T k .stuck) (bTail own so).tail.tail [.own h1, .val (.tuple (prS (dl L))), .val (.list (ar.map Dn.Th.d)), .val K.d, .val (.int b), z5, y6, y7, y8, y9, y10, y11, y12, z13, .val w.1.d, .val (.int (w.2 : Nat)), y16, y17, y18, y19] := by
    obtain ⟨fs, f1, f2⟩ := HS.md
    have s1 : execS W mdM (enK W T k .stuck) (.set 13 (.lc [18] (.n 18) (.ex (.v 5)) [.cmp .eq (.idx (.v 18) (.c (.int 1))) (.blt .min [.lc [19] (.n 19) (.ex (.v 5)) [] (.idx (.v 19) (.c (.int 1)))])] (.v 18))) [.own h, .val (.tuple (prS (dl L))), .val (.list (ar.map Dn.Th.d)), .val K.d, .val (.int b), .own (.list (wl.map wayD)), y6, y7, y8, y9, y10, y11, y12, y13, y14, y15, y16, y17, y18, y19]
        = .ok .nx [.own h, .val (.tuple (prS (dl L))), .val (.list (ar.map Dn.Th.d)), .val K.d, .val (.int b), .val (.list (wl.map wayD)), y6, y7, y8, y9, y10, y11, y12, .own (.list ((wl.map wayD).filter (limP m))), y14, y15, y16, y17, y18, y19] := by
      generalize (wl.map wayD).filter (limP m) = F at few ⊢
      generalize wl.map wayD = P at few ⊢
      simp -implicitDefEqProofs [few]
    have memF : ∀ x ∈ (wl.map wayD).filter (limP m), x ∈ wl.map wayD := fun x hx => (List.mem_filter.mp hx).1
    have wlen : (wl.map wayD).length = wl.length := List.length_map ..
    generalize hF : (wl.map wayD).filter (limP m) = F at few fne flen s1 memF
    by_cases c : 1 < b
    · obtain ⟨x, h1, hx, hh1, e1⟩ := someM (W := W) (k := k) (i := so) (l := wl.map wayD) HS hh (by rw [wlen, hw]; simp) (by rw [wlen]; omega) (by omega)
      obtain ⟨w, hw', rfl⟩ := List.mem_map.mp hx
      refine ⟨w, h1, .own (.list F), .val (.list (wl.map wayD)), hw', hh1, ?_⟩
      rw [xs_step s1]
      refine xs_step ?_
      generalize wl.map wayD = P at e1 ⊢
      unfold wayD at e1
      simp -implicitDefEqProofs [f1, f2, c, e1, mdM]
    · obtain ⟨x, h1, hx, hh1, e1⟩ := someM (W := W) (k := k) (i := so) (l := F) HS hh fne (by omega) (by omega)
      obtain ⟨w, hw', rfl⟩ := List.mem_map.mp (memF x hx)
      refine ⟨w, h1, .val (.list F), .val (.list (wl.map wayD)), hw', hh1, ?_⟩
      rw [xs_step s1]
      refine xs_step ?_
      generalize wl.map wayD = P
      unfold wayD at e1
      simp -implicitDefEqProofs [f1, f2, c, e1, mdM]
  obtain ⟨w, h1, z13, z5, hw1, hh1, e1⟩ := pick
  obtain ⟨its, hI, dn⟩ := g w hw1
  obtain ⟨di, ni⟩ := head_its hL ha hI
  have mp := head_made hL hal hI
  have hn := Th.h_n its
  have dl3 : w.2 ≤ 3 := by have := dropN_le dn; omega
  have s3 : execS W mdM (enK W T k .stuck) (.par 16 7 (.v 14) (.ite (.isi (.v 14) [.str]) (.idx (.blt .dict [.v 1]) (.v 14)) (.idx (.v 2) (.v 14)))) [.own h1, .val (.tuple (prS (dl L))), .val (.list (ar.map Dn.Th.d)), .val K.d, .val (.int b), z5, y6, y7, y8, y9, y10, y11, y12, z13, .val w.1.d, .val (.int (w.2 : Nat)), y16, y17, y18, y19]
      = .ok .nx [.own h1, .val (.tuple (prS (dl L))), .val (.list (ar.map Dn.Th.d)), .val K.d, .val (.int b), z5, y6, .val its.d, y8, y9, y10, y11, y12, z13, .val w.1.d, .val (.int (w.2 : Nat)), .val w.1.d, y17, y18, y19] := by
    rcases hI with ⟨s, es, lk, _⟩ | ⟨j, es, ej⟩
    · have la := hL.good.lay
      have ki : isIns (kvS (dl L)) = false := kvS_ins
      have fl := findK_lookup (x := s) (L := L)
      rw [lk] at fl
      rw [es]
      generalize kvS (dl L) = kv at la ki fl
      generalize prS (dl L) = P at la ⊢
      simp -implicitDefEqProofs [Pg.d, isTy, la, ki, fl, mdM]
    · have ix : idxD (.list (ar.map Dn.Th.d)) (.int (j : Nat)) = some its.d := by
        rw [idx_list (by omega), Int.toNat_natCast, List.getElem?_map, ej]
        rfl
      rw [es]
      generalize ar.map Dn.Th.d = P at ix ⊢
      simp -implicitDefEqProofs [Pg.d, isTy, ix, mdM]
  obtain ⟨h2, x, ρ', hh2, e2, alt⟩ := spine (W := W) (A := if -6 < b then Hb (b - 2) 3 else 0) (Z := if -6 < b then Zb (b - 2) 3 else 0) (y5 := z5) (y6 := y6) (y8 := y8) (y9 := y9) (y10 := y10) (y11 := y11) (y13 := z13) (y14 := .val w.1.d) (y15 := .val (.int (w.2 : Nat))) (y18 := y18) (y19 := y19) ho hm hL ha hb (fun c => by rw [if_pos c]; exact Nat.le_refl _) (fun c => by rw [if_pos c]; exact Nat.le_refl _) ih hM
    ((List.range w.2).map fun (j : Nat) => PyData.int (j : Int)) its w.1 0 h1 y12 y17 hh1 (by rw [List.length_map, List.length_range]; exact dn) di ni (by rw [Nat.zero_mul]; exact mp) (fun _ => by rw [List.length_map, List.length_range]; omega)
  have rg := range_nat (n := w.2) (by omega)
  have s4 : execS W mdM (enK W T k .stuck) (.for (.n 17) (.range1 (.v 15)) (bSp own)) [.own h1, .val (.tuple (prS (dl L))), .val (.list (ar.map Dn.Th.d)), .val K.d, .val (.int b), z5, y6, .val its.d, y8, y9, y10, y11, y12, z13, .val w.1.d, .val (.int (w.2 : Nat)), .val w.1.d, y17, y18, y19]
      = .ok x (.own h2 :: .val (.tuple (prS (dl L))) :: .val (.list (ar.map Dn.Th.d)) :: .val K.d :: .val (.int b) :: ρ') := by
    rw [x_for]
    simp -implicitDefEqProofs [rg]
    exact e2
  rcases alt with rfl | ⟨rfl, cb, p', v5, v6, v7, v8, v9, v10, v11, v12, v13, v14, v15, v17, v18, v19, hp', rfl⟩
  · refine ⟨h2, .none, ρ', hh2, .inl rfl, ?_⟩
    rw [e1]
    show execSs W mdM (enK W T k .stuck) (_ :: _ :: _) _ = _
    rw [xs_step s3, xs_cons, s4]
    rfl
  · refine ⟨h2, p'.d, [v5, v6, v7, v8, v9, v10, v11, v12, v13, v14, v15, .val p'.d, v17, v18, v19], hh2, .inr ⟨p', rfl, hp'.le ?_ ?_⟩, ?_⟩
    · rw [List.length_map, List.length_range] at cb ⊢
      by_cases z : w.2 + 0 = 0
      · rw [if_pos z]; exact Nat.zero_le _
      · rw [if_neg z]
        have c := cb (by omega)
        have np := Th.n_pos K
        rw [if_pos c]
        unfold Hb
        rw [if_pos c]
        split <;> omega
    · rw [List.length_map, List.length_range] at cb ⊢
      have np := Th.n_pos K
      by_cases z : w.2 = 0
      · rw [z]
        unfold Zb
        omega
      · have c := cb (by omega)
        rw [if_pos c]
        have le : (w.2 + 0) * (14 + Zb (b - 2) 3) ≤ 3 * (14 + Zb (b - 2) 3) := Nat.mul_le_mul_right _ (by omega)
        have := zb_two (n := Th.n K) c np
        omega
    · rw [e1]
      show execSs W mdM (enK W T k .stuck) (_ :: _ :: _) _ = _
      rw [xs_step s3, xs_step s4]
      simp -implicitDefEqProofs
/-! ### the whole -/
theorem endC {own so : Nat} {fo : FD} {L : List (Str × Th)} {ar : List Th} {K : Th} {b : Int} {wl : List (Pg × Nat)} {h : PyData} {y6 y7 y8 y9 y10 y11 y12 y13 y14 y15 y16 y17 y18 y19 : Slot} (ho : T[own]? = some fo) (hm : fo.md = mdM) (HS : HasSome T so) (hL : LibDr L) (ha : ArOk ar) (hb : b ≤ 8) (hh : Hd h)
    {M : Nat} (ih : IHyp W T own k L M) (hM : -6 < b → (mu (b - 2) 3 < M ∧ ar.length + mu (b - 2) 3 ≤ 600)) (g : ∀ w ∈ wl, WayI L ar K w) (n1 : wl.length ≤ 200000) (hal : ar.length ≤ 1000) (hk : 5 ≤ k) :
    ∃ h' x ρ', Hd h' ∧ MadeR L ar K (Hb b (Th.n K)) (Zb b (Th.n K)) x ∧ execSs W mdM (enK W T k .stuck) (.ite (.cmp .eq (.v 5) (.lst [])) [.ret (.c .none)] [] :: bTail own so) [.own h, .val (.tuple (prS (dl L))), .val (.list (ar.map Dn.Th.d)), .val K.d, .val (.int b), .own (.list (wl.map wayD)), y6, y7, y8, y9, y10, y11, y12, y13, y14, y15, y16, y17, y18, y19]
      = .ok (.ret (.val x)) (.own h' :: .val (.tuple (prS (dl L))) :: .val (.list (ar.map Dn.Th.d)) :: .val K.d :: .val (.int b) :: ρ') := by
  have wn := ways_nil g
  cases wl with
  | nil =>
    refine ⟨h, .none, [.own (.list []), y6, y7, y8, y9, y10, y11, y12, y13, y14, y15, y16, y17, y18, y19], hh, .inl rfl, ?_⟩
    have wn : eqD (.list []) (.list []) = some true := wn
    rw [show (([] : List (Pg × Nat)).map wayD) = [] from rfl]
    generalize prS (dl L) = P
    generalize ar.map Dn.Th.d = Q
    simp -implicitDefEqProofs [wn]
  | cons w wl =>
    obtain ⟨h', x, ρ', a1, a2, e⟩ := tailD (y6 := y6) (y7 := y7) (y8 := y8) (y9 := y9) (y10 := y10) (y11 := y11) (y12 := y12) (y13 := y13) (y14 := y14) (y15 := y15) (y16 := y16) (y17 := y17) (y18 := y18) (y19 := y19) ho hm HS hL ha hb hh ih hM g (List.cons_ne_nil _ _) n1 hal hk
    refine ⟨h', x, ρ', a1, a2, ?_⟩
    rw [xs_step, e]
    have wn : eqD (.list ((w :: wl).map wayD)) (.list []) = some false := wn
    generalize (w :: wl).map wayD = A at wn ⊢
    generalize prS (dl L) = P
    generalize ar.map Dn.Th.d = Q
    simp -implicitDefEqProofs [wn]
theorem isTyD_a {s : Str} : isTy (Dn.Th.a s).d .str = true := rfl
theorem made {own dr so ki dp : Nat} {L : List (Str × Th)} (h0 : T[own]? = some (fdMade own dr so ki dp)) (hd : T[dr]? = some fdDraw) (HS : HasSome T so) (HD : HasKindD T ki) (hp : T[dp]? = some fdDrops) (hL : LibDr L) (hW : 100 ≤ W) : ∀ (M k : Nat), M + 12 ≤ k → IHyp W T own k L M := by
  intro M
  induction M with
  | zero => intro k _ ar K b h _ _ _ _ _ hm _; omega
  | succ M IH =>
    intro k hk ar K b h hh ha hK hn hb hm hlen
    obtain ⟨k, rfl⟩ : ∃ j, k = j + 1 := ⟨k - 1, by omega⟩
    have ih := IH k (by omega)
    have nK := Th.n_pos K
    have hmd : (fdMade own dr so ki dp).md = mdM := rfl
    obtain ⟨fk, fk1, fk2⟩ := HD.md
    have hal : ar.length ≤ 600 := by omega
    have hM : -6 < b → (mu (b - 2) 3 < M ∧ ar.length + mu (b - 2) 3 ≤ 600) := fun c => by
      unfold mu at hm hlen ⊢
      omega
    -- the heads
    obtain ⟨wl0, a6, a7, a8, g0, n0, e1⟩ := walk1 (W := W) (k := k) (L := L) (ar := ar) (K := K) (h := h) (arD := .list (ar.map Dn.Th.d)) (b := b) (x6 := .un) (x7 := .un) (x8 := .un) (x9 := .un) (x10 := .un) (x11 := .un) (x12 := .un) (x13 := .un) (x14 := .un) (x15 := .un) (x16 := .un) (x17 := .un) (x18 := .un) (x19 := .un) hp hL hK hW (by omega)
    obtain ⟨wl, c6, c7, c8, g, n1, e2⟩ := walk2 (W := W) (k := k) (L := L) (K := K) (h := h) (lib := .tuple (prS (dl L))) (b := b) (x6 := a6) (x7 := a7) (x8 := a8) (x9 := .un) (x10 := .un) (x11 := .un) (x12 := .un) (x13 := .un) (x14 := .un) (x15 := .un) (x16 := .un) (x17 := .un) (x18 := .un) (x19 := .un) hp ha hK (by omega) g0 n0 hW (by omega)
    obtain ⟨way, h1, hw, hh1, e3⟩ := draw (W := W) (k := k) (i := dr) (lim := 5) hd hh (by omega) (by omega) (by omega)
    have wn := ways_nil g
    have fin : ∃ h' x ρ', Hd h' ∧ MadeR L ar K (Hb b (Th.n K)) (Zb b (Th.n K)) x ∧ execSs W mdM (enK W T k .stuck) (sFun own :: sHalf own dr ki :: .ite (.cmp .eq (.v 5) (.lst [])) [.ret (.c .none)] [] :: bTail own so) [.own h1, .val (.tuple (prS (dl L))), .val (.list (ar.map Dn.Th.d)), .val K.d, .val (.int b), .own (.list (wl.map wayD)), c6, c7, c8, .val (.int (way : Nat)), .un, .un, .un, .un, .un, .un, .un, .un, .un, .un]
        = .ok (.ret (.val x)) (.own h' :: .val (.tuple (prS (dl L))) :: .val (.list (ar.map Dn.Th.d)) :: .val K.d :: .val (.int b) :: ρ') := by
      -- behind the first way
      have half : ∃ h' x ρ', Hd h' ∧ MadeR L ar K (Hb b (Th.n K)) (Zb b (Th.n K)) x ∧ execSs W mdM (enK W T k .stuck) (sHalf own dr ki :: .ite (.cmp .eq (.v 5) (.lst [])) [.ret (.c .none)] [] :: bTail own so) [.own h1, .val (.tuple (prS (dl L))), .val (.list (ar.map Dn.Th.d)), .val K.d, .val (.int b), .own (.list (wl.map wayD)), c6, c7, c8, .val (.int (way : Nat)), .un, .un, .un, .un, .un, .un, .un, .un, .un, .un]
          = .ok (.ret (.val x)) (.own h' :: .val (.tuple (prS (dl L))) :: .val (.list (ar.map Dn.Th.d)) :: .val K.d :: .val (.int b) :: ρ') := by
        by_cases c : 3 < b ∧ way = 4
        · obtain ⟨cb, rfl⟩ := c
          obtain ⟨r, h2, hr, hh2, d1⟩ := draw (W := W) (k := k) (i := dr) (lim := 2) hd hh1 (by omega) (by omega) (by omega)
          obtain ⟨o, h3, od, on', hh3, d2⟩ := kind (W := W) HD (1 + r) (by omega) (by omega) k (by omega) h2 hh2
          have zi : ((1 + r : Nat) : Int) = 1 + (r : Int) := by omega
          rw [zi] at d2
          have mb : (b / 2 + 6).toNat * 10 + 12 ≤ (b + 6).toNat * 10 := by omega
          obtain ⟨x1, h4, hx1, hh4, d3⟩ := ih ar o (b / 2) h3 hh3 ha od (by omega) (by omega) (by unfold mu at hm ⊢; omega) (by unfold mu at hlen ⊢; omega)
          have ar2 : ArOk (ar ++ [o]) := fun t ht => by
            rcases List.mem_append.mp ht with q | q
            · exact ha t q
            · rw [List.mem_singleton.mp q]; exact ⟨od, by omega⟩
          obtain ⟨x2, h5, hx2, hh5, d4⟩ := ih (ar ++ [o]) K (b / 2) h4 hh4 ar2 hK hn (by omega) (by unfold mu at hm ⊢; omega) (by rw [List.length_append, List.length_singleton]; unfold mu at hlen ⊢; omega)
          rw [List.map_append, show [o].map Dn.Th.d = [o.d] from rfl] at d4
          have sz : (ar.map Dn.Th.d).length + 1 ≤ 16777216 := by rw [List.length_map]; omega
          have on2 : Th.n o ≤ 5 := by omega
          have ec : ∀ (z10 z11 z12 : Slot), _ := fun z10 z11 z12 => endC (W := W) (k := k) (y6 := c6) (y7 := c7) (y8 := c8) (y9 := .val (.int (4 : Nat))) (y10 := z10) (y11 := z11) (y12 := z12) (y13 := .un) (y14 := .un) (y15 := .un) (y16 := .un) (y17 := .un) (y18 := .un) (y19 := .un) h0 hmd HS hL ha hb hh5 ih hM g n1 (by omega) (by omega)
          -- nothing was made
          have off : ∀ (u1 u2 : PyData), execS W mdM (enK W T k .stuck) (sHalf own dr ki) [.own h1, .val (.tuple (prS (dl L))), .val (.list (ar.map Dn.Th.d)), .val K.d, .val (.int b), .own (.list (wl.map wayD)), c6, c7, c8, .val (.int (4 : Nat)), .un, .un, .un, .un, .un, .un, .un, .un, .un, .un]
              = .ok .nx [.own h5, .val (.tuple (prS (dl L))), .val (.list (ar.map Dn.Th.d)), .val K.d, .val (.int b), .own (.list (wl.map wayD)), c6, c7, c8, .val (.int (4 : Nat)), .val u2, .val o.d, .val u1, .un, .un, .un, .un, .un, .un, .un] →
              ∃ h' x ρ', Hd h' ∧ MadeR L ar K (Hb b (Th.n K)) (Zb b (Th.n K)) x ∧ execSs W mdM (enK W T k .stuck) (sHalf own dr ki :: .ite (.cmp .eq (.v 5) (.lst [])) [.ret (.c .none)] [] :: bTail own so) [.own h1, .val (.tuple (prS (dl L))), .val (.list (ar.map Dn.Th.d)), .val K.d, .val (.int b), .own (.list (wl.map wayD)), c6, c7, c8, .val (.int (4 : Nat)), .un, .un, .un, .un, .un, .un, .un, .un, .un, .un]
                = .ok (.ret (.val x)) (.own h' :: .val (.tuple (prS (dl L))) :: .val (.list (ar.map Dn.Th.d)) :: .val K.d :: .val (.int b) :: ρ') := fun u1 u2 e => by
            obtain ⟨h', x, ρ', q1, q2, q3⟩ := ec (.val u2) (.val o.d) (.val u1)
            exact ⟨h', x, ρ', q1, q2, by rw [xs_step e]; exact q3⟩
          generalize hP : prS (dl L) = P at d3 d4 off ⊢
          generalize hQ : ar.map Dn.Th.d = Q at d3 d4 sz off ⊢
          generalize hA : wl.map wayD = A at off ⊢
          rcases hx1 with rfl | ⟨p1, rfl, m1⟩
          · rcases hx2 with rfl | ⟨p2, rfl, m2⟩
            · refine off .none .none ?_
              simp -implicitDefEqProofs [cb, hd, fdDraw, fk1, fk2, h0, fdMade, d1, d2, d3, d4, sz, isNn, mdM]
            · refine off .none p2.d ?_
              simp -implicitDefEqProofs [cb, hd, fdDraw, fk1, fk2, h0, fdMade, d1, d2, d3, d4, sz, isNn, mdM]
          · have p1n := pg_none m1.1 m1.2.1
            rcases hx2 with rfl | ⟨p2, rfl, m2⟩
            · refine off p1.d .none ?_
              simp -implicitDefEqProofs [cb, hd, fdDraw, fk1, fk2, h0, fdMade, d1, d2, d3, d4, sz, isNn, p1n, mdM]
            · have p2n := pg_none m2.1 m2.2.1
              have mf := made_fun m2 od on2
              have mp := (made_use mf m1 (dr_pu od)).le (show max (Hb (b / 2) (Th.n K) + 1) (Hb (b / 2) (Th.n o)) + 1 ≤ Hb b (Th.n K) by
                unfold Hb
                rw [if_pos (by omega), if_pos (by omega), if_pos (by omega)]
                omega) (zb_half cb (by omega) hn)
              refine ⟨h5, _, [.own (.list A), c6, c7, c8, .val (.int 4), .val p2.d, .val o.d, .val p1.d, .un, .un, .un, .un, .un, .un, .un], hh5, .inr ⟨.u (.f o p2) p1, rfl, mp⟩, ?_⟩
              rw [show (Pg.u (.f o p2) p1).d = .tuple [.str "use", .tuple [.str "fun", o.d, p2.d], p1.d] from rfl]
              simp -implicitDefEqProofs [cb, hd, fdDraw, fk1, fk2, h0, fdMade, d1, d2, d3, d4, sz, p1n, p2n, mdM]
        · obtain ⟨h', x, ρ', q1, q2, q3⟩ := endC (W := W) (k := k) (y6 := c6) (y7 := c7) (y8 := c8) (y9 := .val (.int (way : Nat))) (y10 := .un) (y11 := .un) (y12 := .un) (y13 := .un) (y14 := .un) (y15 := .un) (y16 := .un) (y17 := .un) (y18 := .un) (y19 := .un) h0 hmd HS hL ha hb hh1 ih hM g n1 (by omega) (by omega)
          refine ⟨h', x, ρ', q1, q2, ?_⟩
          rw [xs_step, q3]
          generalize prS (dl L) = P
          generalize ar.map Dn.Th.d = Q
          generalize wl.map wayD = A
          by_cases cb : 3 < b
          · have cw : ¬ (way : Int) = 4 := fun z => c ⟨cb, by omega⟩
            simp -implicitDefEqProofs [cb, cw]
          · simp -implicitDefEqProofs [cb]
      -- no way by a function
      have skip : execS W mdM (enK W T k .stuck) (sFun own) [.own h1, .val (.tuple (prS (dl L))), .val (.list (ar.map Dn.Th.d)), .val K.d, .val (.int b), .own (.list (wl.map wayD)), c6, c7, c8, .val (.int (way : Nat)), .un, .un, .un, .un, .un, .un, .un, .un, .un, .un]
          = .ok .nx [.own h1, .val (.tuple (prS (dl L))), .val (.list (ar.map Dn.Th.d)), .val K.d, .val (.int b), .own (.list (wl.map wayD)), c6, c7, c8, .val (.int (way : Nat)), .un, .un, .un, .un, .un, .un, .un, .un, .un, .un] →
          ∃ h' x ρ', Hd h' ∧ MadeR L ar K (Hb b (Th.n K)) (Zb b (Th.n K)) x ∧ execSs W mdM (enK W T k .stuck) (sFun own :: sHalf own dr ki :: .ite (.cmp .eq (.v 5) (.lst [])) [.ret (.c .none)] [] :: bTail own so) [.own h1, .val (.tuple (prS (dl L))), .val (.list (ar.map Dn.Th.d)), .val K.d, .val (.int b), .own (.list (wl.map wayD)), c6, c7, c8, .val (.int (way : Nat)), .un, .un, .un, .un, .un, .un, .un, .un, .un, .un]
            = .ok (.ret (.val x)) (.own h' :: .val (.tuple (prS (dl L))) :: .val (.list (ar.map Dn.Th.d)) :: .val K.d :: .val (.int b) :: ρ') := fun e => by
        obtain ⟨h', x, ρ', q1, q2, q3⟩ := half
        exact ⟨h', x, ρ', q1, q2, by rw [xs_step e]; exact q3⟩
      cases K with
      | o d => cases hK
      | a s =>
        refine skip ?_
        rw [show (Dn.Th.a s).d = .str s from rfl]
        generalize prS (dl L) = P
        generalize ar.map Dn.Th.d = Q
        generalize wl.map wayD = A
        simp -implicitDefEqProofs [isTy]
      | f l r =>
        have nl := Th.n_pos l
        have nr := Th.n_pos r
        have nlr : Th.n l + Th.n r ≤ 5 := hn
        have hm : mu b (Th.n l + Th.n r) < M + 1 := hm
        have hlen : ar.length + mu b (Th.n l + Th.n r) ≤ 600 := hlen
        have ar2 : ArOk (ar ++ [l]) := fun t ht => by
          rcases List.mem_append.mp ht with q | q
          · exact ha t q
          · rw [List.mem_singleton.mp q]; exact ⟨hK.1, by omega⟩
        obtain ⟨x1, h2, hx1, hh2, d1⟩ := ih (ar ++ [l]) r (b - 1) h1 hh1 ar2 hK.2 (by omega) (by omega) (by unfold mu at hm ⊢; omega) (by rw [List.length_append, List.length_singleton]; unfold mu at hlen ⊢; omega)
        rw [List.map_append, show [l].map Dn.Th.d = [l.d] from rfl] at d1
        have sz : (ar.map Dn.Th.d).length + 1 ≤ 16777216 := by rw [List.length_map]; omega
        have go : (way < 3 ∨ wl.isEmpty = true ∨ b < 2) ∨ ¬ (way < 3 ∨ wl.isEmpty = true ∨ b < 2) := Classical.em _
        have kd : (Dn.Th.f l r).d = .tuple [l.d, r.d] := rfl
        rcases go with go | go
        · -- a function
          have body : ∃ ρ', execS W mdM (enK W T k .stuck) (sFun own) [.own h1, .val (.tuple (prS (dl L))), .val (.list (ar.map Dn.Th.d)), .val (Dn.Th.f l r).d, .val (.int b), .own (.list (wl.map wayD)), c6, c7, c8, .val (.int (way : Nat)), .un, .un, .un, .un, .un, .un, .un, .un, .un, .un]
              = .ok (.ret (.val (if isNone x1 = true then .none else .tuple [.str "fun", l.d, x1]))) (.own h2 :: .val (.tuple (prS (dl L))) :: .val (.list (ar.map Dn.Th.d)) :: .val (Dn.Th.f l r).d :: .val (.int b) :: ρ') := by
            refine ⟨[.own (.list (wl.map wayD)), c6, c7, c8, .val (.int (way : Nat)), .val x1, .un, .un, .un, .un, .un, .un, .un, .un, .un], ?_⟩
            rw [kd]
            generalize prS (dl L) = P at d1 ⊢
            generalize ar.map Dn.Th.d = Q at d1 sz ⊢
            generalize wl.map wayD = A at wn ⊢
            generalize wl.isEmpty = em at wn go
            by_cases c1 : way < 3
            · have c1' : (way : Int) < 3 := by omega
              cases xn : isNone x1 <;> simp -implicitDefEqProofs [isTy, c1', h0, fdMade, d1, sz, xn, mdM]
            · have c1' : ¬ (way : Int) < 3 := by omega
              cases em with
              | true => cases xn : isNone x1 <;> simp -implicitDefEqProofs [isTy, c1', wn, h0, fdMade, d1, sz, xn, mdM]
              | false =>
                have c2 : b < 2 := by
                  rcases go with z | z | z
                  · exact absurd z c1
                  · cases z
                  · exact z
                cases xn : isNone x1 <;> simp -implicitDefEqProofs [isTy, c1', wn, c2, h0, fdMade, d1, sz, xn, mdM]
          obtain ⟨ρ', body⟩ := body
          rcases hx1 with rfl | ⟨p, rfl, mp⟩
          · refine ⟨h2, .none, ρ', hh2, .inl rfl, ?_⟩
            rw [xs_cons, body]
            rfl
          · have pn := pg_none mp.1 mp.2.1
            have mf := (made_fun mp hK.1 (by omega)).le (show Hb (b - 1) (Th.n r) + 1 ≤ Hb b (Th.n l + Th.n r) by
              unfold Hb
              split <;> split <;> omega) (show Zb (b - 1) (Th.n r) + 17 * Th.n l + 7 ≤ Zb b (Th.n l + Th.n r) by
              unfold Zb
              split
              · rw [if_pos (by omega)]
                have : 2 ^ (b - 1 + 6).toNat ≤ 2 ^ (b + 6).toNat := Nat.pow_le_pow_right (by omega) (by omega)
                omega
              · split <;> omega)
            refine ⟨h2, _, ρ', hh2, .inr ⟨.f l p, rfl, mf⟩, ?_⟩
            rw [xs_cons, body, pn]
            rfl
        · refine skip ?_
          have c1 : ¬ (way : Int) < 3 := fun z => go (.inl (by omega))
          have c2 : wl.isEmpty = false := Bool.eq_false_iff.mpr fun z => go (.inr (.inl z))
          have c3 : ¬ b < 2 := fun z => go (.inr (.inr z))
          rw [c2] at wn
          rw [kd]
          generalize prS (dl L) = P
          generalize ar.map Dn.Th.d = Q
          generalize wl.map wayD = A at wn ⊢
          simp -implicitDefEqProofs [isTy, c1, wn, c3]
    obtain ⟨h', x, ρ', q1, q2, q3⟩ := fin
    refine ⟨x, h', q2, q1, ?_⟩
    rw [callF_eq h0 rfl]
    show finR 5 (execSs W mdM (enK W T k .stuck) (.set 5 (.lst []) :: .for (.t [6, 7]) (.ex (.v 1)) (bW1 dp) :: .for (.t [8, 7]) (.enum (.v 2)) (bW2 dp) :: .set 9 (.call dr [.v 0, .c (.int 5)]) :: sFun own :: sHalf own dr ki :: .ite (.cmp .eq (.v 5) (.lst [])) [.ret (.c .none)] [] :: bTail own so)
      [.own h, .val (.tuple (prS (dl L))), .val (.list (ar.map Dn.Th.d)), .val K.d, .val (.int b), .un, .un, .un, .un, .un, .un, .un, .un, .un, .un, .un, .un, .un, .un, .un]) = _
    have s1 : execS W mdM (enK W T k .stuck) (.set 5 (.lst [])) [.own h, .val (.tuple (prS (dl L))), .val (.list (ar.map Dn.Th.d)), .val K.d, .val (.int b), .un, .un, .un, .un, .un, .un, .un, .un, .un, .un, .un, .un, .un, .un, .un]
        = .ok .nx [.own h, .val (.tuple (prS (dl L))), .val (.list (ar.map Dn.Th.d)), .val K.d, .val (.int b), .own (.list []), .un, .un, .un, .un, .un, .un, .un, .un, .un, .un, .un, .un, .un, .un] := by
      simp [mdM]
    have s2 : execS W mdM (enK W T k .stuck) (.for (.t [6, 7]) (.ex (.v 1)) (bW1 dp)) [.own h, .val (.tuple (prS (dl L))), .val (.list (ar.map Dn.Th.d)), .val K.d, .val (.int b), .own (.list []), .un, .un, .un, .un, .un, .un, .un, .un, .un, .un, .un, .un, .un, .un]
        = .ok .nx [.own h, .val (.tuple (prS (dl L))), .val (.list (ar.map Dn.Th.d)), .val K.d, .val (.int b), .own (.list (wl0.map wayD)), a6, a7, a8, .un, .un, .un, .un, .un, .un, .un, .un, .un, .un, .un] := by
      rw [x_for]
      simp -implicitDefEqProofs
      exact e1
    have s3 : execS W mdM (enK W T k .stuck) (.for (.t [8, 7]) (.enum (.v 2)) (bW2 dp)) [.own h, .val (.tuple (prS (dl L))), .val (.list (ar.map Dn.Th.d)), .val K.d, .val (.int b), .own (.list (wl0.map wayD)), a6, a7, a8, .un, .un, .un, .un, .un, .un, .un, .un, .un, .un, .un]
        = .ok .nx [.own h, .val (.tuple (prS (dl L))), .val (.list (ar.map Dn.Th.d)), .val K.d, .val (.int b), .own (.list (wl.map wayD)), c6, c7, c8, .un, .un, .un, .un, .un, .un, .un, .un, .un, .un, .un] := by
      rw [x_for]
      generalize ar.map Dn.Th.d = Q at e2 ⊢
      simp -implicitDefEqProofs
      exact e2
    have s4 : execS W mdM (enK W T k .stuck) (.set 9 (.call dr [.v 0, .c (.int 5)])) [.own h, .val (.tuple (prS (dl L))), .val (.list (ar.map Dn.Th.d)), .val K.d, .val (.int b), .own (.list (wl.map wayD)), c6, c7, c8, .un, .un, .un, .un, .un, .un, .un, .un, .un, .un, .un]
        = .ok .nx [.own h1, .val (.tuple (prS (dl L))), .val (.list (ar.map Dn.Th.d)), .val K.d, .val (.int b), .own (.list (wl.map wayD)), c6, c7, c8, .val (.int (way : Nat)), .un, .un, .un, .un, .un, .un, .un, .un, .un, .un] := by
      generalize prS (dl L) = P
      generalize ar.map Dn.Th.d = Q
      generalize wl.map wayD = A
      simp -implicitDefEqProofs [hd, fdDraw, e3, mdM]
    rw [xs_step s1, xs_step s2, xs_step s3, xs_step s4, q3]
    simp
end
end Dn.K0
/-! the law alloftype_k05_whole_what_is_no_program: its text by places, what its defs compute, the walk -/
namespace Law
open PySem PySem.Spec PyProof.Rows L2 Dn
abbrev prog := PySem.Challenge.pw_alloftype_k05_whole_what_is_no_program
def top (i : Nat) : Stmt := PySem.Challenge.pw_alloftype_k05_whole_what_is_no_program.main.body.getD i (.Pass ⟨0, 0, 0, 0⟩)
/-- law(script) script:0 hand:1 spin:2 library:3 kind:4 wish:5 thing:6 things:7 again:8 one:9 -/
def b0 : List MS := [.set 1 (.call 1 [.v 0]),
    .ite (.not (.call 2 [])) [.ret (.c (.bool false))] [],
    .for (.n 2) (.range1 (.c (.int 4))) [.par 3 4 (.call 3 [.v 1, .c (.int 4)]) (.call 4 [.v 1, .bin .add (.c (.int 1)) (.call 5 [.v 1, .c (.int 4)])]),
    .par 5 6 (.wish "Wish" 6 0 (.v 3) (.v 4)) (.call 7 [.v 1, .v 3, .lst [], .v 4, .c (.int 7)]),
    .ite (.cmp .is (.v 6) (.c .none)) [.set 6 (.tup [.c (.str "fun"), .c (.str "a"), .tup [.c (.str "fun"), .tup [.c (.str "a"), .c (.str "b")], .tup [.c (.str "use"), .c (.int 1), .c (.int 0)]]])] [],
    .set 7 (.bin .add (.lst [.v 6, .call 8 [.v 1]]) (.lc [8] (.n 8) (.range1 (.c (.int 6))) [] (.call 9 [.v 1, .v 3, .c (.int 0), .v 6]))),
    .app 7 (.tup [.c (.str "use"), .call 9 [.v 1, .v 3, .c (.int 0), .v 6], .tup [.c (.str "use"), .v 6, .v 6]]),
    .ite (.not (.blt .all [.lc [9] (.n 9) (.ex (.v 7)) [] (.call 10 [.v 5, .v 3, .v 9])])) [.ret (.c (.bool false))] []],
    .ret (.c (.bool true))]
def fd0 : FD := { np := 1, ns := 10, md := [false], body := b0 }
/-- _law_hand(script) script:0 cells:1 cell:2 -/
def b1 : List MS := [.set 1 (.lc [2] (.n 2) (.ex (.sl (.v 0) .non (.ex (.c (.int 63))))) [] (.blt .abs [.blt .int [.v 2]])),
    .ret (.lst [.v 1, .c (.int 0), .c (.int 0), .bin .add (.c (.int 433)) (.bin .mul (.c (.int 42)) (.blt .len [.v 1])), .c (.int 0)])]
def fd1 : FD := { np := 1, ns := 3, md := [false], body := b1 }
/-- _law_is_known_right() wish:0 things:1 thing:2 -/
def b2 : List MS := [.set 0 (.wish "Wish" 6 0 (.tup [.tup [.c (.str "f"), .tup [.c (.str "a"), .c (.str "b")]], .tup [.c (.str "z"), .c (.str "a")]]) (.c (.str "b"))),
    .set 1 (.lst [.c (.int 0), .c (.str "g"), .c .none, .tup [.c (.str "fun"), .c (.str "a"), .c (.int 1)], .tup [.c (.str "use"), .c (.str "f")], .tup [.c (.str "use"), .c (.str "z"), .tup [.c (.str "fun"), .c (.str "a"), .c (.int 2)]], .tup [.c (.str "fun"), .tup [.c (.str "a")], .c (.int 0)], .c (.bool true), .neg (.c (.int 1))]),
    .set 1 (.bin .add (.v 1) (.lst [.tup [.c (.str "fun"), .c (.str "a"), .tup [.c (.str "fun"), .c (.str "b"), .c (.int 2)]], .lst [.c (.str "use"), .c (.str "f"), .c (.str "z")], .tup [.c (.str "fun"), .c (.str "A"), .c (.int 0)]])),
    .app 1 (.tup [.c (.str "use"), .tup [.c (.str "use"), .c (.str "z"), .c (.str "z")], .c .none]),
    .ret (.blt .all [.lc [2] (.n 2) (.ex (.v 1)) [] (.and (.cmp .eq (.call 11 [.v 0, .v 2]) (.tup [.c (.str "none")])) (.cmp .is (.call 12 [.v 0, .v 2]) (.c (.bool false))))])]
def fd2 : FD := { np := 0, ns := 3, md := [], body := b2 }
/-- _law_library(hand, most) hand:0 most:1 found:2 names_here:3 at:4 -/
def b3 : List MS := [.par 2 3 (.lst []) (.lst [.c (.str "f"), .c (.str "g"), .c (.str "h"), .c (.str "z"), .c (.str "fun"), .c (.str "use"), .c (.str "longname")]),
    .for (.n 4) (.range1 (.call 5 [.v 0, .bin .add (.v 1) (.c (.int 1))])) [.app 2 (.tup [.idx (.v 3) (.v 4), .call 4 [.v 0, .bin .add (.c (.int 1)) (.call 5 [.v 0, .c (.int 4)])]])],
    .ite (.cmp .gt (.call 5 [.v 0, .c (.int 3)]) (.c (.int 0))) [.set 2 (.bin .add (.v 2) (.lst [.tup [.c (.str "ka"), .c (.str "a")], .tup [.c (.str "kb"), .c (.str "b")], .tup [.c (.str "kc"), .c (.str "c")], .tup [.c (.str "kd"), .c (.str "d")], .tup [.c (.str "kz"), .c (.str "abcdefgh")]]))] [],
    .ret (.blt .tuple [.v 2])]
def fd3 : FD := { np := 2, ns := 5, md := [true, false], body := b3 }
/-- _law_kind(hand, limit) hand:0 limit:1 front:2 -/
def b4 : List MS := [.ite (.cmp .lt (.v 1) (.c (.int 2))) [.ret (.call 13 [.v 0])] [],
    .set 2 (.bin .add (.c (.int 1)) (.call 5 [.v 0, .bin .sub (.v 1) (.c (.int 1))])),
    .set 2 (.ite (.cmp .eq (.call 5 [.v 0, .c (.int 2)]) (.c (.int 0))) (.c (.int 1)) (.v 2)),
    .ret (.tup [.call 4 [.v 0, .v 2], .call 4 [.v 0, .bin .sub (.v 1) (.v 2)]])]
def fd4 : FD := { np := 2, ns := 3, md := [true, false], body := b4 }
/-- _law_draw(hand, limit) hand:0 limit:1 cell:2 digit:3 number:4 -/
def b5 : List MS := [.ite (.and (.cmp .eq (.idx (.v 0) (.c (.int 2))) (.c (.int 0))) (.cmp .lt (.idx (.v 0) (.c (.int 1))) (.blt .len [.idx (.v 0) (.c (.int 0))]))) [.set 2 (.idx (.idx (.v 0) (.c (.int 0))) (.idx (.v 0) (.c (.int 1)))),
    .put 0 (.c (.int 1)) (.bin .add (.idx (.v 0) (.c (.int 1))) (.c (.int 1))),
    .put 0 (.c (.int 3)) (.bin .mod (.blt .int [.bin .add (.bin .add (.bin .mul (.idx (.v 0) (.c (.int 3))) (.c (.int 69621))) (.v 2)) (.c (.int 103))]) (.c (.int 2147483629))),
    .ite (.cmp .ge (.v 2) (.bin .pow (.c (.int 10)) (.c (.int 18)))) [.put 0 (.c (.int 2)) (.v 2)] []] [],
    .ite (.cmp .gt (.idx (.v 0) (.c (.int 2))) (.c (.int 0))) [.set 3 (.bin .mod (.blt .int [.idx (.v 0) (.c (.int 2))]) (.v 1)),
    .put 0 (.c (.int 2)) (.bin .fdiv (.idx (.v 0) (.c (.int 2))) (.v 1)),
    .ret (.v 3)] [],
    .put 0 (.c (.int 4)) (.bin .add (.idx (.v 0) (.c (.int 4))) (.c (.int 1))),
    .set 4 (.bin .mod (.blt .int [.bin .mul (.blt .int [.bin .add (.idx (.v 0) (.c (.int 3))) (.bin .mul (.c (.int 7919)) (.idx (.v 0) (.c (.int 4))))]) (.c (.int 48271))]) (.c (.int 2147483647))),
    .set 4 (.bin .mod (.blt .int [.bin .mul (.v 4) (.bin .add (.bin .fdiv (.v 4) (.c (.int 1009))) (.c (.int 69621)))]) (.c (.int 2147483647))),
    .set 4 (.bin .mod (.blt .int [.bin .mul (.v 4) (.bin .add (.bin .fdiv (.v 4) (.c (.int 2003))) (.c (.int 40692)))]) (.c (.int 2147483399))),
    .ret (.bin .mod (.blt .int [.bin .fdiv (.v 4) (.c (.int 16))]) (.v 1))]
def fd5 : FD := { np := 2, ns := 5, md := [true, false], body := b5 }
/-- wrong_part(library, kind) library:0 kind:1 known:2 number:3 item:4 -/
def b6 : List MS := [.ite (.not (.call 14 [.v 0, .c (.int 0), .c (.int 10)])) [.ret (.c (.str "library"))] [],
    .ite (.not (.blt .all [.lc [4] (.n 4) (.ex (.v 0)) [] (.call 14 [.v 4, .c (.int 2), .c (.int 2)])])) [.ret (.c (.str "library"))] [],
    .set 2 (.dnew),
    .for (.t [3, 4]) (.enum (.v 0)) [.ite (.or (.not (.call 15 [.idx (.v 4) (.c (.int 0))])) (.or (.cmp .isin (.idx (.v 4) (.c (.int 0))) (.v 2)) (.not (.call 16 [.idx (.v 4) (.c (.int 1))])))) [.ret (.v 3)] [],
    .putD 2 (.idx (.v 4) (.c (.int 0))) (.c (.bool true))],
    .ret (.ite (.call 16 [.v 1]) (.c .none) (.c (.str "kind")))]
def fd6 : FD := { np := 2, ns := 5, md := [false, false], body := b6 }
/-- _law_made(hand, library, around, kind, budget) hand:0 library:1 around:2 kind:3 budget:4 ways:5 name:6 its:7 number:8 way:9 body:10 other_kind:11 other:12 few:13 head:14 limit:15 found:16 spin:17 one:18 two:19 -/
def b7 : List MS := [.set 5 (.lst []),
    .for (.t [6, 7]) (.ex (.v 1)) [.ext 5 (.lc [15] (.n 15) (.ex (.call 17 [.v 7, .v 3])) [] (.tup [.v 6, .v 15]))],
    .for (.t [8, 7]) (.enum (.v 2)) [.ext 5 (.bin .mul (.lc [15] (.n 15) (.ex (.call 17 [.v 7, .v 3])) [] (.tup [.v 8, .v 15])) (.c (.int 2)))],
    .set 9 (.call 5 [.v 0, .c (.int 5)]),
    .ite (.and (.not (.isi (.v 3) [.str])) (.or (.cmp .lt (.v 9) (.c (.int 3))) (.or (.cmp .eq (.v 5) (.lst [])) (.cmp .lt (.v 4) (.c (.int 2)))))) [.set 10 (.call 7 [.v 0, .v 1, .bin .add (.v 2) (.lst [.idx (.v 3) (.c (.int 0))]), .idx (.v 3) (.c (.int 1)), .bin .sub (.v 4) (.c (.int 1))]),
    .ret (.ite (.cmp .is (.v 10) (.c .none)) (.c .none) (.tup [.c (.str "fun"), .idx (.v 3) (.c (.int 0)), .v 10]))] [],
    .ite (.and (.cmp .gt (.v 4) (.c (.int 3))) (.cmp .eq (.v 9) (.c (.int 4)))) [.set 11 (.call 4 [.v 0, .bin .add (.c (.int 1)) (.call 5 [.v 0, .c (.int 2)])]),
    .set 12 (.call 7 [.v 0, .v 1, .v 2, .v 11, .bin .fdiv (.v 4) (.c (.int 2))]),
    .set 10 (.call 7 [.v 0, .v 1, .bin .add (.v 2) (.lst [.v 11]), .v 3, .bin .fdiv (.v 4) (.c (.int 2))]),
    .ite (.and (.cmp .isnot (.v 12) (.c .none)) (.cmp .isnot (.v 10) (.c .none))) [.ret (.tup [.c (.str "use"), .tup [.c (.str "fun"), .v 11, .v 10], .v 12])] []] [],
    .ite (.cmp .eq (.v 5) (.lst [])) [.ret (.c .none)] [],
    .set 13 (.lc [18] (.n 18) (.ex (.v 5)) [.cmp .eq (.idx (.v 18) (.c (.int 1))) (.blt .min [.lc [19] (.n 19) (.ex (.v 5)) [] (.idx (.v 19) (.c (.int 1)))])] (.v 18)),
    .unpack [14, 15] (.call 18 [.v 0, .ite (.cmp .gt (.v 4) (.c (.int 1))) (.v 5) (.v 13)]),
    .par 16 7 (.v 14) (.ite (.isi (.v 14) [.str]) (.idx (.blt .dict [.v 1]) (.v 14)) (.idx (.v 2) (.v 14))),
    .for (.n 17) (.range1 (.v 15)) [.set 12 (.ite (.cmp .gt (.v 4) (.neg (.c (.int 6)))) (.call 7 [.v 0, .v 1, .v 2, .idx (.v 7) (.c (.int 0)), .bin .sub (.v 4) (.c (.int 2))]) (.c .none)),
    .ite (.cmp .is (.v 12) (.c .none)) [.ret (.c .none)] [],
    .par 16 7 (.tup [.c (.str "use"), .v 16, .v 12]) (.idx (.v 7) (.c (.int 1)))],
    .ret (.v 16)]
def fd7 : FD := { np := 5, ns := 20, md := [true, false, false, false, false], body := b7 }
/-- _law_deep_thing(hand) hand:0 found:1 spin:2 double:3 -/
def b8 : List MS := [.set 1 (.call 18 [.v 0, .lst [.c .none, .tup [], .c (.str "F"), .neg (.c (.int 1)), .c (.bool true), .lst [.c (.int 0)], .dnew]]),
    .for (.n 2) (.range1 (.call 5 [.v 0, .c (.int 50)])) [.set 3 (.ite (.cmp .lt (.v 2) (.c (.int 4))) (.tup [.c (.str "use"), .v 1, .v 1]) (.tup [.c (.str "use"), .v 1, .c (.int 0)])),
    .set 1 (.call 18 [.v 0, .lst [.tup [.c (.str "fun"), .c (.str "a"), .v 1], .v 3, .lst [.v 1]]])],
    .ret (.v 1)]
def fd8 : FD := { np := 1, ns := 4, md := [true], body := b8 }
/-- _law_spoiled(hand, library, deep, thing) hand:0 library:1 deep:2 thing:3 at:4 bent:5 some:6 -/
def b9 : List MS := [.ite (.and (.isi (.v 3) [.tuple]) (.cmp .gt (.call 5 [.v 0, .c (.int 4)]) (.c (.int 0)))) [.ite (.cmp .eq (.idx (.v 3) (.c (.int 0))) (.c (.str "fun"))) [.ret (.tup [.c (.str "fun"), .idx (.v 3) (.c (.int 1)), .call 9 [.v 0, .v 1, .bin .add (.v 2) (.c (.int 1)), .idx (.v 3) (.c (.int 2))]])] [],
    .set 4 (.bin .add (.c (.int 1)) (.call 5 [.v 0, .c (.int 2)])),
    .set 5 (.call 9 [.v 0, .v 1, .v 2, .idx (.v 3) (.v 4)]),
    .ret (.ite (.cmp .eq (.v 4) (.c (.int 1))) (.tup [.c (.str "use"), .v 5, .idx (.v 3) (.c (.int 2))]) (.tup [.c (.str "use"), .idx (.v 3) (.c (.int 1)), .v 5]))] [],
    .set 6 (.lst [.v 2, .neg (.c (.int 1)), .bin .add (.v 2) (.c (.int 1)), .c (.bool true), .c (.bool false), .c .none, .c (.str ""), .c (.str "noname"), .c (.str "F"), .tup [], .tup [.c (.str "fun")], .tup [.c (.str "use")], .lst [.v 3], .dnew, .tup [.v 3]]),
    .set 6 (.bin .add (.v 6) (.lst [.tup [.c (.str "fun"), .c (.str "a")], .tup [.c (.str "fun"), .c (.str "a"), .v 3, .c (.int 0)], .tup [.c (.str "use"), .v 3], .tup [.c (.str "use"), .v 3, .v 3, .v 3]])),
    .set 6 (.bin .add (.v 6) (.lst [.tup [.c (.str "Fun"), .c (.str "a"), .v 3], .tup [.c (.str "fun"), .c (.str "A"), .v 3], .tup [.c (.str "fun"), .c .none, .v 3], .tup [.c (.str "fun"), .tup [.c (.str "a")], .v 3]])),
    .set 6 (.bin .add (.v 6) (.lst [.lst [.c (.str "use"), .v 3, .v 3], .tup [.c (.int 0), .c (.str "a"), .v 3], .tup [.c (.str "fun"), .call 19 [.v 0], .v 3], .tup [.c (.str "fun"), .c (.str "a"), .bin .add (.v 2) (.c (.int 1))]])),
    .set 6 (.bin .add (.v 6) (.lst [.tup [.c (.str "use"), .tup [.c (.str "use"), .v 3, .c .none], .v 3], .bin .pow (.c (.int 10)) (.c (.int 19)), .tup [.c (.str "fun"), .lst [.c (.str "a"), .c (.str "a")], .v 3], .tup [.c (.str "use"), .v 3, .v 2]])),
    .ret (.call 18 [.v 0, .bin .add (.v 6) (.lst [.tup [.c .none, .v 3, .v 3], .c (.str "fun"), .c (.str "use")])])]
def fd9 : FD := { np := 4, ns := 7, md := [true, false, false, false], body := b9 }
/-- _law_is_judged(wish, library, thing) wish:0 library:1 thing:2 copy:3 due:4 -/
def b10 : List MS := [.par 3 4 (.blt .repr [.v 2]) (.call 20 [.v 1, .v 2]),
    .ite (.or (.not (.call 21 [.call 11 [.v 0, .v 2], .v 4])) (.cmp .ne (.blt .repr [.v 2]) (.v 3))) [.ret (.c (.bool false))] [],
    .ret (.call 21 [.call 12 [.v 0, .v 2], .cmp .eq (.v 4) (.tup [.c (.str "told"), .attr "Wish" "kind" (.v 0)])])]
def fd10 : FD := { np := 3, ns := 5, md := [false, false, false], body := b10 }
/-- _law_told(wish, thing) wish:0 thing:1 found:2 error:3 -/
def b11 : List MS := [.set 2 (.tup [.c (.str "other")]),
    .tryAs [.set 2 (.tup [.c (.str "told"), .call 22 [.v 0, .v 1]])] none 3 [.set 2 (.ite (.and (.isx 3 1) (.isb 3)) (.tup [.c (.str "none")]) (.tup [.c (.str "other")]))],
    .ret (.v 2)]
def fd11 : FD := { np := 2, ns := 4, md := [false, false], body := b11 }
/-- is_program(wish, thing) wish:0 thing:1 -/
def b12 : List MS := [.ret (.and (.call 23 [.attr "Wish" "kinds" (.v 0), .v 1, .c (.int 0)]) (.cmp .eq (.call 24 [.attr "Wish" "kinds" (.v 0), .v 1, .tup []]) (.attr "Wish" "kind" (.v 0))))]
def fd12 : FD := { np := 2, ns := 2, md := [false, false], body := b12 }
/-- _law_atom(hand) hand:0 -/
def b13 : List MS := [.ret (.call 18 [.v 0, .lst [.c (.str "a"), .c (.str "a"), .c (.str "b"), .c (.str "b"), .c (.str "c"), .c (.str "d"), .c (.str "abcdefgh")]])]
def fd13 : FD := { np := 1, ns := 1, md := [true], body := b13 }
/-- is_tuple(thing, least, most) thing:0 least:1 most:2 -/
def b14 : List MS := [.ret (.and (.isi (.v 0) [.tuple]) (.chain .le .le (.v 1) (.blt .len [.v 0]) (.v 2)))]
def fd14 : FD := { np := 3, ns := 3, md := [false, false, false], body := b14 }
/-- is_name(thing) thing:0 sign:1 -/
def b15 : List MS := [.ret (.and (.isi (.v 0) [.str]) (.and (.chain .le .le (.c (.int 1)) (.blt .len [.v 0]) (.c (.int 8))) (.blt .all [.lc [1] (.n 1) (.ex (.v 0)) [] (.cmp .isin (.v 1) (.c (.str "abcdefghijklmnopqrstuvwxyz")))])))]
def fd15 : FD := { np := 1, ns := 2, md := [false], body := b15 }
/-- is_kind(thing) thing:0 -/
def b16 : List MS := [.ret (.chain .le .le (.c (.int 1)) (.call 25 [.v 0, .c (.int 15)]) (.c (.int 30)))]
def fd16 : FD := { np := 1, ns := 1, md := [false], body := b16 }
/-- _law_drops(its, kind) its:0 kind:1 found:2 limit:3 -/
def b17 : List MS := [.par 2 3 (.lst []) (.c (.int 0)),
    .while (.not (.isi (.v 0) [.str])) [.set 2 (.bin .add (.v 2) (.bin .mul (.lst [.v 3]) (.blt .int [.cmp .eq (.v 0) (.v 1)]))),
    .par 0 3 (.idx (.v 0) (.c (.int 1))) (.bin .add (.v 3) (.c (.int 1)))],
    .ret (.bin .add (.v 2) (.bin .mul (.lst [.v 3]) (.blt .int [.cmp .eq (.v 0) (.v 1)])))]
def fd17 : FD := { np := 2, ns := 4, md := [false, false], body := b17 }
/-- _law_some(hand, things) hand:0 things:1 -/
def b18 : List MS := [.ret (.idx (.v 1) (.call 5 [.v 0, .blt .len [.v 1]]))]
def fd18 : FD := { np := 2, ns := 2, md := [true, false], body := b18 }
/-- _law_wild(hand) hand:0 thing:1 spin:2 -/
def b19 : List MS := [.set 1 (.call 18 [.v 0, .lst [.c .none, .c (.int 0), .tup [], .c (.str ""), .c (.str "A"), .c (.bool true), .dnew]]),
    .for (.n 2) (.range1 (.call 5 [.v 0, .c (.int 45)])) [.set 1 (.call 18 [.v 0, .lst [.tup [.v 1, .c (.str "a")], .tup [.c (.str "a"), .v 1], .lst [.v 1], .tup [.v 1]]])],
    .ret (.v 1)]
def fd19 : FD := { np := 1, ns := 3, md := [true], body := b19 }
/-- _law_due(library, thing) library:0 thing:1 -/
def b20 : List MS := [.ite (.not (.call 26 [.v 0, .c (.int 0), .v 1])) [.ret (.tup [.c (.str "none")])] [],
    .ret (.tup [.c (.str "told"), .call 27 [.v 0, .lst [], .v 1]])]
def fd20 : FD := { np := 2, ns := 2, md := [false, false], body := b20 }
/-- _law_is(told, due) told:0 due:1 k:2 -/
def b21 : List MS := [.ite (.isi (.v 1) [.tuple, .list]) [.ite (.or (.cmp .ne (.isi (.v 0) [.tuple]) (.isi (.v 1) [.tuple])) (.cmp .ne (.isi (.v 0) [.list]) (.isi (.v 1) [.list]))) [.ret (.c (.bool false))] [],
    .ite (.cmp .ne (.blt .len [.v 0]) (.blt .len [.v 1])) [.ret (.c (.bool false))] [],
    .ret (.blt .all [.lc [2] (.n 2) (.range1 (.blt .len [.v 1])) [] (.call 21 [.idx (.v 0) (.v 2), .idx (.v 1) (.v 2)])])] [],
    .ite (.cmp .is (.v 1) (.c .none)) [.ret (.cmp .is (.v 0) (.c .none))] [],
    .ite (.or (.cmp .ne (.isi (.v 0) [.bool]) (.isi (.v 1) [.bool])) (.cmp .ne (.isi (.v 0) [.int]) (.isi (.v 1) [.int]))) [.ret (.c (.bool false))] [],
    .ret (.and (.cmp .eq (.isi (.v 0) [.str]) (.isi (.v 1) [.str])) (.cmp .eq (.v 0) (.v 1)))]
def fd21 : FD := { np := 2, ns := 3, md := [false, false], body := b21 }
/-- kind_of(wish, program) wish:0 program:1 -/
def b22 : List MS := [.expr (.call 28 [.v 0, .v 1]),
    .ret (.call 24 [.attr "Wish" "kinds" (.v 0), .v 1, .tup []])]
def fd22 : FD := { np := 2, ns := 2, md := [false, false], body := b22 }
/-- has_form(names, thing, around) names:0 thing:1 around:2 part:3 -/
def b23 : List MS := [.ite (.isi (.v 1) [.str]) [.ret (.cmp .isin (.v 1) (.v 0))] [],
    .ite (.call 29 [.v 1]) [.ret (.call 30 [.v 1, .c (.int 0), .bin .sub (.v 2) (.c (.int 1))])] [],
    .ite (.call 31 [.v 1, .c (.str "fun"), .c (.int 3)]) [.ret (.and (.call 16 [.idx (.v 1) (.c (.int 1))]) (.call 23 [.v 0, .idx (.v 1) (.c (.int 2)), .bin .add (.v 2) (.c (.int 1))]))] [],
    .ret (.and (.call 31 [.v 1, .c (.str "use"), .c (.int 3)]) (.blt .all [.lc [3] (.n 3) (.ex (.sl (.v 1) (.ex (.c (.int 1))) .non)) [] (.call 23 [.v 0, .v 3, .v 2])]))]
def fd23 : FD := { np := 3, ns := 4, md := [false, false, false], body := b23 }
/-- kind_in(names, program, around) names:0 program:1 around:2 inner:3 one:4 other:5 part:6 -/
def b24 : List MS := [.ite (.isi (.v 1) [.str]) [.ret (.idx (.v 0) (.v 1))] [],
    .ite (.call 29 [.v 1]) [.ret (.idx (.v 2) (.v 1))] [],
    .ite (.cmp .eq (.idx (.v 1) (.c (.int 0))) (.c (.str "fun"))) [.set 3 (.call 24 [.v 0, .idx (.v 1) (.c (.int 2)), .bin .add (.v 2) (.tup [.idx (.v 1) (.c (.int 1))])]),
    .ret (.ite (.cmp .is (.v 3) (.c .none)) (.c .none) (.tup [.idx (.v 1) (.c (.int 1)), .v 3]))] [],
    .unpack [4, 5] (.lc [6] (.n 6) (.ex (.sl (.v 1) (.ex (.c (.int 1))) .non)) [] (.call 24 [.v 0, .v 6, .v 2])),
    .ite (.or (.cmp .is (.v 4) (.c .none)) (.or (.cmp .is (.v 5) (.c .none)) (.or (.call 32 [.v 4]) (.cmp .ne (.idx (.v 4) (.c (.int 0))) (.v 5))))) [.ret (.c .none)] [],
    .ret (.idx (.v 4) (.c (.int 1)))]
def fd24 : FD := { np := 3, ns := 7, md := [false, false, false], body := b24 }
/-- atoms_in(thing, nested) thing:0 nested:1 one:2 other:3 item:4 -/
def b25 : List MS := [.ite (.call 15 [.v 0]) [.ret (.c (.int 1))] [],
    .ite (.or (.cmp .eq (.v 1) (.c (.int 0))) (.not (.call 14 [.v 0, .c (.int 2), .c (.int 2)]))) [.ret (.neg (.c (.int 1)))] [],
    .unpack [2, 3] (.lc [4] (.n 4) (.ex (.v 0)) [] (.call 25 [.v 4, .bin .sub (.v 1) (.c (.int 1))])),
    .ret (.ite (.or (.cmp .lt (.v 2) (.c (.int 0))) (.cmp .lt (.v 3) (.c (.int 0)))) (.neg (.c (.int 1))) (.bin .add (.v 2) (.v 3)))]
def fd25 : FD := { np := 2, ns := 5, md := [false, false], body := b25 }
/-- _law_has_form(library, deep, thing) library:0 deep:1 thing:2 -/
def b26 : List MS := [.ite (.isi (.v 2) [.str]) [.ret (.cmp .isin (.v 2) (.blt .dict [.v 0]))] [],
    .ite (.isi (.v 2) [.int]) [.ret (.and (.not (.isi (.v 2) [.bool])) (.chain .le .lt (.c (.int 0)) (.v 2) (.v 1)))] [],
    .ite (.or (.not (.isi (.v 2) [.tuple])) (.or (.cmp .ne (.blt .len [.v 2]) (.c (.int 3))) (.not (.isi (.idx (.v 2) (.c (.int 0))) [.str])))) [.ret (.c (.bool false))] [],
    .ite (.cmp .eq (.idx (.v 2) (.c (.int 0))) (.c (.str "fun"))) [.ret (.and (.call 33 [.idx (.v 2) (.c (.int 1))]) (.call 26 [.v 0, .bin .add (.v 1) (.c (.int 1)), .idx (.v 2) (.c (.int 2))]))] [],
    .ite (.cmp .ne (.idx (.v 2) (.c (.int 0))) (.c (.str "use"))) [.ret (.c (.bool false))] [],
    .ret (.and (.call 26 [.v 0, .v 1, .idx (.v 2) (.c (.int 1))]) (.call 26 [.v 0, .v 1, .idx (.v 2) (.c (.int 2))]))]
def fd26 : FD := { np := 3, ns := 3, md := [false, false, false], body := b26 }
/-- _law_kindd(library, around, thing) library:0 around:1 thing:2 body:3 one:4 other:5 -/
def b27 : List MS := [.ite (.isi (.v 2) [.str]) [.ret (.idx (.blt .dict [.v 0]) (.v 2))] [],
    .ite (.isi (.v 2) [.int]) [.ret (.idx (.v 1) (.v 2))] [],
    .ite (.cmp .eq (.idx (.v 2) (.c (.int 0))) (.c (.str "fun"))) [.set 3 (.call 27 [.v 0, .bin .add (.v 1) (.lst [.idx (.v 2) (.c (.int 1))]), .idx (.v 2) (.c (.int 2))]),
    .ret (.ite (.cmp .is (.v 3) (.c .none)) (.c .none) (.tup [.idx (.v 2) (.c (.int 1)), .v 3]))] [],
    .par 4 5 (.call 27 [.v 0, .v 1, .idx (.v 2) (.c (.int 1))]) (.call 27 [.v 0, .v 1, .idx (.v 2) (.c (.int 2))]),
    .ite (.or (.cmp .is (.v 4) (.c .none)) (.or (.cmp .is (.v 5) (.c .none)) (.or (.isi (.v 4) [.str]) (.cmp .ne (.idx (.v 4) (.c (.int 0))) (.v 5))))) [.ret (.c .none)] [],
    .ret (.idx (.v 4) (.c (.int 1)))]
def fd27 : FD := { np := 3, ns := 6, md := [false, false, false], body := b27 }
/-- check_form(wish, thing) wish:0 thing:1 -/
def b28 : List MS := [.ite (.not (.call 23 [.attr "Wish" "kinds" (.v 0), .v 1, .c (.int 0)])) [.raise0 1] []]
def fd28 : FD := { np := 2, ns := 2, md := [false, false], body := b28 }
/-- is_integer(thing) thing:0 -/
def b29 : List MS := [.ret (.and (.isi (.v 0) [.int]) (.not (.isi (.v 0) [.bool])))]
def fd29 : FD := { np := 1, ns := 1, md := [false], body := b29 }
/-- is_within(thing, least, most) thing:0 least:1 most:2 -/
def b30 : List MS := [.ret (.and (.call 29 [.v 0]) (.chain .le .le (.v 1) (.v 0) (.v 2)))]
def fd30 : FD := { np := 3, ns := 3, md := [false, false, false], body := b30 }
/-- is_called(thing, word, many) thing:0 word:1 many:2 -/
def b31 : List MS := [.ret (.and (.call 14 [.v 0, .v 2, .v 2]) (.and (.isi (.idx (.v 0) (.c (.int 0))) [.str]) (.cmp .eq (.idx (.v 0) (.c (.int 0))) (.v 1))))]
def fd31 : FD := { np := 3, ns := 3, md := [false, false, false], body := b31 }
/-- is_atom(kind) kind:0 -/
def b32 : List MS := [.ret (.isi (.v 0) [.str])]
def fd32 : FD := { np := 1, ns := 1, md := [false], body := b32 }
/-- _law_is_kind(thing) thing:0 found:1 -/
def b33 : List MS := [.set 1 (.call 34 [.v 0]),
    .ret (.and (.cmp .isnot (.v 1) (.c .none)) (.and (.cmp .le (.idx (.v 1) (.c (.int 0))) (.c (.int 30))) (.cmp .le (.idx (.v 1) (.c (.int 1))) (.c (.int 15)))))]
def fd33 : FD := { np := 1, ns := 2, md := [false], body := b33 }
/-- _law_deep_of(thing) thing:0 one:1 other:2 -/
def b34 : List MS := [.ite (.call 35 [.v 0]) [.ret (.tup [.c (.int 1), .c (.int 0)])] [],
    .ite (.or (.not (.isi (.v 0) [.tuple])) (.cmp .ne (.blt .len [.v 0]) (.c (.int 2)))) [.ret (.c .none)] [],
    .par 1 2 (.call 34 [.idx (.v 0) (.c (.int 0))]) (.call 34 [.idx (.v 0) (.c (.int 1))]),
    .ite (.or (.cmp .is (.v 1) (.c .none)) (.cmp .is (.v 2) (.c .none))) [.ret (.c .none)] [],
    .ret (.tup [.bin .add (.idx (.v 1) (.c (.int 0))) (.idx (.v 2) (.c (.int 0))), .bin .add (.c (.int 1)) (.blt .max [.idx (.v 1) (.c (.int 1)), .idx (.v 2) (.c (.int 1))])])]
def fd34 : FD := { np := 1, ns := 3, md := [false], body := b34 }
/-- _law_is_name(thing) thing:0 sign:1 -/
def b35 : List MS := [.ite (.or (.not (.isi (.v 0) [.str])) (.not (.chain .le .le (.c (.int 1)) (.blt .len [.v 0]) (.c (.int 8))))) [.ret (.c (.bool false))] [],
    .ret (.blt .all [.lc [1] (.n 1) (.ex (.v 0)) [] (.cmp .isin (.v 1) (.c (.str "abcdefghijklmnopqrstuvwxyz")))])]
def fd35 : FD := { np := 1, ns := 2, md := [false], body := b35 }
def T : List FD := [fd0, fd1, fd2, fd3, fd4, fd5, fd6, fd7, fd8, fd9, fd10, fd11, fd12, fd13, fd14, fd15, fd16, fd17, fd18, fd19, fd20, fd21, fd22, fd23, fd24, fd25, fd26, fd27, fd28, fd29, fd30, fd31, fd32, fd33, fd34, fd35]
@[simp] theorem T_0 : T[0]? = some fd0 := rfl
@[simp] theorem T_1 : T[1]? = some fd1 := rfl
@[simp] theorem T_2 : T[2]? = some fd2 := rfl
@[simp] theorem T_3 : T[3]? = some fd3 := rfl
@[simp] theorem T_4 : T[4]? = some fd4 := rfl
@[simp] theorem T_5 : T[5]? = some fd5 := rfl
@[simp] theorem T_6 : T[6]? = some fd6 := rfl
@[simp] theorem T_7 : T[7]? = some fd7 := rfl
@[simp] theorem T_8 : T[8]? = some fd8 := rfl
@[simp] theorem T_9 : T[9]? = some fd9 := rfl
@[simp] theorem T_10 : T[10]? = some fd10 := rfl
@[simp] theorem T_11 : T[11]? = some fd11 := rfl
@[simp] theorem T_12 : T[12]? = some fd12 := rfl
@[simp] theorem T_13 : T[13]? = some fd13 := rfl
@[simp] theorem T_14 : T[14]? = some fd14 := rfl
@[simp] theorem T_15 : T[15]? = some fd15 := rfl
@[simp] theorem T_16 : T[16]? = some fd16 := rfl
@[simp] theorem T_17 : T[17]? = some fd17 := rfl
@[simp] theorem T_18 : T[18]? = some fd18 := rfl
@[simp] theorem T_19 : T[19]? = some fd19 := rfl
@[simp] theorem T_20 : T[20]? = some fd20 := rfl
@[simp] theorem T_21 : T[21]? = some fd21 := rfl
@[simp] theorem T_22 : T[22]? = some fd22 := rfl
@[simp] theorem T_23 : T[23]? = some fd23 := rfl
@[simp] theorem T_24 : T[24]? = some fd24 := rfl
@[simp] theorem T_25 : T[25]? = some fd25 := rfl
@[simp] theorem T_26 : T[26]? = some fd26 := rfl
@[simp] theorem T_27 : T[27]? = some fd27 := rfl
@[simp] theorem T_28 : T[28]? = some fd28 := rfl
@[simp] theorem T_29 : T[29]? = some fd29 := rfl
@[simp] theorem T_30 : T[30]? = some fd30 := rfl
@[simp] theorem T_31 : T[31]? = some fd31 := rfl
@[simp] theorem T_32 : T[32]? = some fd32 := rfl
@[simp] theorem T_33 : T[33]? = some fd33 := rfl
@[simp] theorem T_34 : T[34]? = some fd34 := rfl
@[simp] theorem T_35 : T[35]? = some fd35 := rfl
abbrev s0 : Stmt := top 52
abbrev s1 : Stmt := top 30
abbrev s2 : Stmt := top 51
abbrev s3 : Stmt := top 41
abbrev s4 : Stmt := top 35
abbrev s5 : Stmt := top 31
abbrev s6 : Stmt := top 19
abbrev s7 : Stmt := top 42
abbrev s8 : Stmt := top 49
abbrev s9 : Stmt := top 48
abbrev s10 : Stmt := top 50
abbrev s11 : Stmt := top 46
abbrev s12 : Stmt := top 28
abbrev s13 : Stmt := top 34
abbrev s14 : Stmt := top 6
abbrev s15 : Stmt := top 5
abbrev s16 : Stmt := top 17
abbrev s17 : Stmt := top 43
abbrev s18 : Stmt := top 32
abbrev s19 : Stmt := top 40
abbrev s20 : Stmt := top 47
abbrev s21 : Stmt := top 33
abbrev s22 : Stmt := top 27
abbrev s23 : Stmt := top 24
abbrev s24 : Stmt := top 25
abbrev s25 : Stmt := top 16
abbrev s26 : Stmt := top 44
abbrev s27 : Stmt := top 45
abbrev s28 : Stmt := top 26
abbrev s29 : Stmt := top 3
abbrev s30 : Stmt := top 4
abbrev s31 : Stmt := top 7
abbrev s32 : Stmt := top 18
abbrev s33 : Stmt := top 38
abbrev s34 : Stmt := top 37
abbrev s35 : Stmt := top 36
abbrev s900 : Stmt := inClass (top 20) 0
abbrev s901 : Stmt := inClass (top 20) 1
theorem sc0 : FnScope ["script", "hand", "spin", "library", "kind", "wish", "thing", "things", "again", "one"] ["script"] (defScope s0) := ⟨rfl, rfl, rfl, by decide +kernel, rfl, by decide +kernel, by decide +kernel⟩
theorem sc1 : FnScope ["script", "cells", "cell"] ["script"] (defScope s1) := ⟨rfl, rfl, rfl, by decide +kernel, rfl, by decide +kernel, by decide +kernel⟩
theorem sc2 : FnScope ["wish", "things", "thing"] [] (defScope s2) := ⟨rfl, rfl, rfl, by decide +kernel, rfl, by decide +kernel, by decide +kernel⟩
theorem sc3 : FnScope ["hand", "most", "found", "names_here", "at"] ["hand", "most"] (defScope s3) := ⟨rfl, rfl, rfl, by decide +kernel, rfl, by decide +kernel, by decide +kernel⟩
theorem sc4 : FnScope ["hand", "limit", "front"] ["hand", "limit"] (defScope s4) := ⟨rfl, rfl, rfl, by decide +kernel, rfl, by decide +kernel, by decide +kernel⟩
theorem sc5 : FnScope ["hand", "limit", "cell", "digit", "number"] ["hand", "limit"] (defScope s5) := ⟨rfl, rfl, rfl, by decide +kernel, rfl, by decide +kernel, by decide +kernel⟩
theorem sc6 : FnScope ["library", "kind", "known", "number", "item"] ["library", "kind"] (defScope s6) := ⟨rfl, rfl, rfl, by decide +kernel, rfl, by decide +kernel, by decide +kernel⟩
theorem sc7 : FnScope ["hand", "library", "around", "kind", "budget", "ways", "name", "its", "number", "way", "body", "other_kind", "other", "few", "head", "limit", "found", "spin", "one", "two"] ["hand", "library", "around", "kind", "budget"] (defScope s7) := ⟨rfl, rfl, rfl, by decide +kernel, rfl, by decide +kernel, by decide +kernel⟩
theorem sc8 : FnScope ["hand", "found", "spin", "double"] ["hand"] (defScope s8) := ⟨rfl, rfl, rfl, by decide +kernel, rfl, by decide +kernel, by decide +kernel⟩
theorem sc9 : FnScope ["hand", "library", "deep", "thing", "at", "bent", "some"] ["hand", "library", "deep", "thing"] (defScope s9) := ⟨rfl, rfl, rfl, by decide +kernel, rfl, by decide +kernel, by decide +kernel⟩
theorem sc10 : FnScope ["wish", "library", "thing", "copy", "due"] ["wish", "library", "thing"] (defScope s10) := ⟨rfl, rfl, rfl, by decide +kernel, rfl, by decide +kernel, by decide +kernel⟩
theorem sc11 : FnScope ["wish", "thing", "found", "error"] ["wish", "thing"] (defScope s11) := ⟨rfl, rfl, rfl, by decide +kernel, rfl, by decide +kernel, by decide +kernel⟩
theorem sc12 : FnScope ["wish", "thing"] ["wish", "thing"] (defScope s12) := ⟨rfl, rfl, rfl, by decide +kernel, rfl, by decide +kernel, by decide +kernel⟩
theorem sc13 : FnScope ["hand"] ["hand"] (defScope s13) := ⟨rfl, rfl, rfl, by decide +kernel, rfl, by decide +kernel, by decide +kernel⟩
theorem sc14 : FnScope ["thing", "least", "most"] ["thing", "least", "most"] (defScope s14) := ⟨rfl, rfl, rfl, by decide +kernel, rfl, by decide +kernel, by decide +kernel⟩
theorem sc15 : FnScope ["thing", "sign"] ["thing"] (defScope s15) := ⟨rfl, rfl, rfl, by decide +kernel, rfl, by decide +kernel, by decide +kernel⟩
theorem sc16 : FnScope ["thing"] ["thing"] (defScope s16) := ⟨rfl, rfl, rfl, by decide +kernel, rfl, by decide +kernel, by decide +kernel⟩
theorem sc17 : FnScope ["its", "kind", "found", "limit"] ["its", "kind"] (defScope s17) := ⟨rfl, rfl, rfl, by decide +kernel, rfl, by decide +kernel, by decide +kernel⟩
theorem sc18 : FnScope ["hand", "things"] ["hand", "things"] (defScope s18) := ⟨rfl, rfl, rfl, by decide +kernel, rfl, by decide +kernel, by decide +kernel⟩
theorem sc19 : FnScope ["hand", "thing", "spin"] ["hand"] (defScope s19) := ⟨rfl, rfl, rfl, by decide +kernel, rfl, by decide +kernel, by decide +kernel⟩
theorem sc20 : FnScope ["library", "thing"] ["library", "thing"] (defScope s20) := ⟨rfl, rfl, rfl, by decide +kernel, rfl, by decide +kernel, by decide +kernel⟩
theorem sc21 : FnScope ["told", "due", "k"] ["told", "due"] (defScope s21) := ⟨rfl, rfl, rfl, by decide +kernel, rfl, by decide +kernel, by decide +kernel⟩
theorem sc22 : FnScope ["wish", "program"] ["wish", "program"] (defScope s22) := ⟨rfl, rfl, rfl, by decide +kernel, rfl, by decide +kernel, by decide +kernel⟩
theorem sc23 : FnScope ["names", "thing", "around", "part"] ["names", "thing", "around"] (defScope s23) := ⟨rfl, rfl, rfl, by decide +kernel, rfl, by decide +kernel, by decide +kernel⟩
theorem sc24 : FnScope ["names", "program", "around", "inner", "one", "other", "part"] ["names", "program", "around"] (defScope s24) := ⟨rfl, rfl, rfl, by decide +kernel, rfl, by decide +kernel, by decide +kernel⟩
theorem sc25 : FnScope ["thing", "nested", "one", "other", "item"] ["thing", "nested"] (defScope s25) := ⟨rfl, rfl, rfl, by decide +kernel, rfl, by decide +kernel, by decide +kernel⟩
theorem sc26 : FnScope ["library", "deep", "thing"] ["library", "deep", "thing"] (defScope s26) := ⟨rfl, rfl, rfl, by decide +kernel, rfl, by decide +kernel, by decide +kernel⟩
theorem sc27 : FnScope ["library", "around", "thing", "body", "one", "other"] ["library", "around", "thing"] (defScope s27) := ⟨rfl, rfl, rfl, by decide +kernel, rfl, by decide +kernel, by decide +kernel⟩
theorem sc28 : FnScope ["wish", "thing"] ["wish", "thing"] (defScope s28) := ⟨rfl, rfl, rfl, by decide +kernel, rfl, by decide +kernel, by decide +kernel⟩
theorem sc29 : FnScope ["thing"] ["thing"] (defScope s29) := ⟨rfl, rfl, rfl, by decide +kernel, rfl, by decide +kernel, by decide +kernel⟩
theorem sc30 : FnScope ["thing", "least", "most"] ["thing", "least", "most"] (defScope s30) := ⟨rfl, rfl, rfl, by decide +kernel, rfl, by decide +kernel, by decide +kernel⟩
theorem sc31 : FnScope ["thing", "word", "many"] ["thing", "word", "many"] (defScope s31) := ⟨rfl, rfl, rfl, by decide +kernel, rfl, by decide +kernel, by decide +kernel⟩
theorem sc32 : FnScope ["kind"] ["kind"] (defScope s32) := ⟨rfl, rfl, rfl, by decide +kernel, rfl, by decide +kernel, by decide +kernel⟩
theorem sc33 : FnScope ["thing", "found"] ["thing"] (defScope s33) := ⟨rfl, rfl, rfl, by decide +kernel, rfl, by decide +kernel, by decide +kernel⟩
theorem sc34 : FnScope ["thing", "one", "other"] ["thing"] (defScope s34) := ⟨rfl, rfl, rfl, by decide +kernel, rfl, by decide +kernel, by decide +kernel⟩
theorem sc35 : FnScope ["thing", "sign"] ["thing"] (defScope s35) := ⟨rfl, rfl, rfl, by decide +kernel, rfl, by decide +kernel, by decide +kernel⟩
theorem sc900 : FnScope ["self", "library", "kind", "part"] ["self", "library", "kind"] (defScope s900) := ⟨rfl, rfl, rfl, by decide +kernel, rfl, by decide +kernel, by decide +kernel⟩
theorem sc901 : FnScope ["self", "library", "kind"] ["self", "library", "kind"] (defScope s901) := ⟨rfl, rfl, rfl, by decide +kernel, rfl, by decide +kernel, by decide +kernel⟩
theorem xt0 : XTxt prog (some "part") ["self", "part"] "__init__" "BadWish.__init__" (inClass (top 10) 0) := ⟨.one rfl (by decide) (by decide), ⟨_, rfl, rfl⟩, fun _ _ _ _ _ _ _ us hl => match us, hl with | [_, _], _ => rfl, by decide +kernel, by decide +kernel, by decide +kernel, by decide +kernel, rfl, rfl, rfl, by decide +kernel⟩
theorem xt1 : XTxt prog none ["self"] "__init__" "NoProgram.__init__" (inClass (top 11) 0) := ⟨.zero rfl, ⟨_, rfl, rfl⟩, fun _ _ _ _ _ _ _ us hl => match us, hl with | [_], _ => rfl, by decide +kernel, by decide +kernel, by decide +kernel, by decide +kernel, rfl, rfl, rfl, by decide +kernel⟩
abbrev CL (x0 x1 : Addr) : List (Addr × Option Str) := [(x0, (some "part")), (x1, none)]
abbrev TL  : List (Addr × Str) := []
structure Top (K : PySem.W.Frag) (mg : Str → Option Value) (f0 f1 f2 f3 f4 f5 f6 f7 f8 f9 f10 f11 f12 f13 f14 f15 f16 f17 f18 f19 f20 f21 f22 f23 f24 f25 f26 f27 f28 f29 f30 f31 f32 f33 f34 f35 x0 y0 x1 y1 xb f900 f901 xW : Addr) (g0 g1 g2 g3 g4 g5 g6 g7 g8 g9 g10 g11 g12 g13 g14 g15 g16 g17 g18 g19 g20 g21 g22 g23 g24 g25 g26 g27 g28 g29 g30 g31 g32 g33 g34 g35 g900 g901 : FuncData) : Prop where
  F0 : Fun K "law" "law" s0 f0 g0
  b0 : Binds K g0 ["script"] []
  k0 : PySem.W.keepIn K (.ref f0) = true
  F1 : Fun K "_law_hand" "_law_hand" s1 f1 g1
  b1 : Binds K g1 ["script"] []
  k1 : PySem.W.keepIn K (.ref f1) = true
  F2 : Fun K "_law_is_known_right" "_law_is_known_right" s2 f2 g2
  b2 : Binds K g2 [] []
  k2 : PySem.W.keepIn K (.ref f2) = true
  F3 : Fun K "_law_library" "_law_library" s3 f3 g3
  b3 : Binds K g3 ["hand", "most"] []
  k3 : PySem.W.keepIn K (.ref f3) = true
  F4 : Fun K "_law_kind" "_law_kind" s4 f4 g4
  b4 : Binds K g4 ["hand", "limit"] []
  k4 : PySem.W.keepIn K (.ref f4) = true
  F5 : Fun K "_law_draw" "_law_draw" s5 f5 g5
  b5 : Binds K g5 ["hand", "limit"] []
  k5 : PySem.W.keepIn K (.ref f5) = true
  F6 : Fun K "wrong_part" "wrong_part" s6 f6 g6
  b6 : Binds K g6 ["library", "kind"] []
  k6 : PySem.W.keepIn K (.ref f6) = true
  F7 : Fun K "_law_made" "_law_made" s7 f7 g7
  b7 : Binds K g7 ["hand", "library", "around", "kind", "budget"] []
  k7 : PySem.W.keepIn K (.ref f7) = true
  F8 : Fun K "_law_deep_thing" "_law_deep_thing" s8 f8 g8
  b8 : Binds K g8 ["hand"] []
  k8 : PySem.W.keepIn K (.ref f8) = true
  F9 : Fun K "_law_spoiled" "_law_spoiled" s9 f9 g9
  b9 : Binds K g9 ["hand", "library", "deep", "thing"] []
  k9 : PySem.W.keepIn K (.ref f9) = true
  F10 : Fun K "_law_is_judged" "_law_is_judged" s10 f10 g10
  b10 : Binds K g10 ["wish", "library", "thing"] []
  k10 : PySem.W.keepIn K (.ref f10) = true
  F11 : Fun K "_law_told" "_law_told" s11 f11 g11
  b11 : Binds K g11 ["wish", "thing"] []
  k11 : PySem.W.keepIn K (.ref f11) = true
  F12 : Fun K "is_program" "is_program" s12 f12 g12
  b12 : Binds K g12 ["wish", "thing"] []
  k12 : PySem.W.keepIn K (.ref f12) = true
  F13 : Fun K "_law_atom" "_law_atom" s13 f13 g13
  b13 : Binds K g13 ["hand"] []
  k13 : PySem.W.keepIn K (.ref f13) = true
  F14 : Fun K "is_tuple" "is_tuple" s14 f14 g14
  b14 : Binds K g14 ["thing", "least", "most"] []
  k14 : PySem.W.keepIn K (.ref f14) = true
  F15 : Fun K "is_name" "is_name" s15 f15 g15
  b15 : Binds K g15 ["thing"] []
  k15 : PySem.W.keepIn K (.ref f15) = true
  F16 : Fun K "is_kind" "is_kind" s16 f16 g16
  b16 : Binds K g16 ["thing"] []
  k16 : PySem.W.keepIn K (.ref f16) = true
  F17 : Fun K "_law_drops" "_law_drops" s17 f17 g17
  b17 : Binds K g17 ["its", "kind"] []
  k17 : PySem.W.keepIn K (.ref f17) = true
  F18 : Fun K "_law_some" "_law_some" s18 f18 g18
  b18 : Binds K g18 ["hand", "things"] []
  k18 : PySem.W.keepIn K (.ref f18) = true
  F19 : Fun K "_law_wild" "_law_wild" s19 f19 g19
  b19 : Binds K g19 ["hand"] []
  k19 : PySem.W.keepIn K (.ref f19) = true
  F20 : Fun K "_law_due" "_law_due" s20 f20 g20
  b20 : Binds K g20 ["library", "thing"] []
  k20 : PySem.W.keepIn K (.ref f20) = true
  F21 : Fun K "_law_is" "_law_is" s21 f21 g21
  b21 : Binds K g21 ["told", "due"] []
  k21 : PySem.W.keepIn K (.ref f21) = true
  F22 : Fun K "kind_of" "kind_of" s22 f22 g22
  b22 : Binds K g22 ["wish", "program"] []
  k22 : PySem.W.keepIn K (.ref f22) = true
  F23 : Fun K "has_form" "has_form" s23 f23 g23
  b23 : Binds K g23 ["names", "thing", "around"] []
  k23 : PySem.W.keepIn K (.ref f23) = true
  F24 : Fun K "kind_in" "kind_in" s24 f24 g24
  b24 : Binds K g24 ["names", "program", "around"] []
  k24 : PySem.W.keepIn K (.ref f24) = true
  F25 : Fun K "atoms_in" "atoms_in" s25 f25 g25
  b25 : Binds K g25 ["thing", "nested"] []
  k25 : PySem.W.keepIn K (.ref f25) = true
  F26 : Fun K "_law_has_form" "_law_has_form" s26 f26 g26
  b26 : Binds K g26 ["library", "deep", "thing"] []
  k26 : PySem.W.keepIn K (.ref f26) = true
  F27 : Fun K "_law_kindd" "_law_kindd" s27 f27 g27
  b27 : Binds K g27 ["library", "around", "thing"] []
  k27 : PySem.W.keepIn K (.ref f27) = true
  F28 : Fun K "check_form" "check_form" s28 f28 g28
  b28 : Binds K g28 ["wish", "thing"] []
  k28 : PySem.W.keepIn K (.ref f28) = true
  F29 : Fun K "is_integer" "is_integer" s29 f29 g29
  b29 : Binds K g29 ["thing"] []
  k29 : PySem.W.keepIn K (.ref f29) = true
  F30 : Fun K "is_within" "is_within" s30 f30 g30
  b30 : Binds K g30 ["thing", "least", "most"] []
  k30 : PySem.W.keepIn K (.ref f30) = true
  F31 : Fun K "is_called" "is_called" s31 f31 g31
  b31 : Binds K g31 ["thing", "word", "many"] []
  k31 : PySem.W.keepIn K (.ref f31) = true
  F32 : Fun K "is_atom" "is_atom" s32 f32 g32
  b32 : Binds K g32 ["kind"] []
  k32 : PySem.W.keepIn K (.ref f32) = true
  F33 : Fun K "_law_is_kind" "_law_is_kind" s33 f33 g33
  b33 : Binds K g33 ["thing"] []
  k33 : PySem.W.keepIn K (.ref f33) = true
  F34 : Fun K "_law_deep_of" "_law_deep_of" s34 f34 g34
  b34 : Binds K g34 ["thing"] []
  k34 : PySem.W.keepIn K (.ref f34) = true
  F35 : Fun K "_law_is_name" "_law_is_name" s35 f35 g35
  b35 : Binds K g35 ["thing"] []
  k35 : PySem.W.keepIn K (.ref f35) = true
  F900 : Fun K "__init__" "Wish.__init__" s900 f900 g900
  b900 : Binds K g900 ["self", "library", "kind"] []
  F901 : Fun K "fill" "Wish.fill" s901 f901 g901
  b901 : Binds K g901 ["self", "library", "kind"] []
  WM : Mk K xW f900
  WC : WCls K xW "Wish"
  Wf : Meth K xW "fill" f901
  WW : IsW K xW
  mx_Wish : mg "Wish" = some (.ref xW)
  m__law_hand : mg "_law_hand" = some (.ref f1)
  m__law_is_known_right : mg "_law_is_known_right" = some (.ref f2)
  m__law_library : mg "_law_library" = some (.ref f3)
  m__law_kind : mg "_law_kind" = some (.ref f4)
  m__law_draw : mg "_law_draw" = some (.ref f5)
  m_wrong_part : mg "wrong_part" = some (.ref f6)
  m__law_made : mg "_law_made" = some (.ref f7)
  m__law_deep_thing : mg "_law_deep_thing" = some (.ref f8)
  m__law_spoiled : mg "_law_spoiled" = some (.ref f9)
  m__law_is_judged : mg "_law_is_judged" = some (.ref f10)
  m__law_told : mg "_law_told" = some (.ref f11)
  m_is_program : mg "is_program" = some (.ref f12)
  m__law_atom : mg "_law_atom" = some (.ref f13)
  m_is_tuple : mg "is_tuple" = some (.ref f14)
  m_is_name : mg "is_name" = some (.ref f15)
  m_is_kind : mg "is_kind" = some (.ref f16)
  m__law_drops : mg "_law_drops" = some (.ref f17)
  m__law_some : mg "_law_some" = some (.ref f18)
  m__law_wild : mg "_law_wild" = some (.ref f19)
  m__law_due : mg "_law_due" = some (.ref f20)
  m__law_is : mg "_law_is" = some (.ref f21)
  m_kind_of : mg "kind_of" = some (.ref f22)
  m_has_form : mg "has_form" = some (.ref f23)
  m_kind_in : mg "kind_in" = some (.ref f24)
  m_atoms_in : mg "atoms_in" = some (.ref f25)
  m__law_has_form : mg "_law_has_form" = some (.ref f26)
  m__law_kindd : mg "_law_kindd" = some (.ref f27)
  m_check_form : mg "check_form" = some (.ref f28)
  m_is_integer : mg "is_integer" = some (.ref f29)
  m_is_within : mg "is_within" = some (.ref f30)
  m_is_called : mg "is_called" = some (.ref f31)
  m_is_atom : mg "is_atom" = some (.ref f32)
  m__law_is_kind : mg "_law_is_kind" = some (.ref f33)
  m__law_deep_of : mg "_law_deep_of" = some (.ref f34)
  m__law_is_name : mg "_law_is_name" = some (.ref f35)
  m_law : mg "law" = some (.ref f0)
  X0 : ExCls K prog x0 y0 (some "part") ["self", "part"] "__init__" "BadWish.__init__" (inClass (top 10) 0)
  mx_BadWish : mg "BadWish" = some (.ref x0)
  X1 : ExCls K prog x1 y1 none ["self"] "__init__" "NoProgram.__init__" (inClass (top 11) 0)
  mx_NoProgram : mg "NoProgram" = some (.ref x1)
  sa1 : SubAll K x1 (some 1) 0 (CL x0 x1)
  mx_KindWishError : mg "KindWishError" = some (.ref xb)
  cfb : ClsF K xb
  sab : SubAll K xb none 0 (CL x0 x1)
  z_ValueError : mg "ValueError" = none
  z_abs : mg "abs" = none
  z_all : mg "all" = none
  z_bool : mg "bool" = none
  z_dict : mg "dict" = none
  z_enumerate : mg "enumerate" = none
  z_int : mg "int" = none
  z_isinstance : mg "isinstance" = none
  z_len : mg "len" = none
  z_list : mg "list" = none
  z_max : mg "max" = none
  z_min : mg "min" = none
  z_range : mg "range" = none
  z_repr : mg "repr" = none
  z_str : mg "str" = none
  z_tuple : mg "tuple" = none
  c_MOST_NAMES : ∃ t, mg "MOST_NAMES" = some (.int 10 t)
  c_MOST_LETTERS : ∃ t, mg "MOST_LETTERS" = some (.int 8 t)
  c_LETTERS : ∃ t, mg "LETTERS" = some (.str "abcdefghijklmnopqrstuvwxyz" t)
  c_MOST_NESTED : ∃ t, mg "MOST_NESTED" = some (.int 15 t)
  c_MOST_ATOMS : ∃ t, mg "MOST_ATOMS" = some (.int 30 t)
  c_FUN : ∃ t, mg "FUN" = some (.str "fun" t)
  c_USE : ∃ t, mg "USE" = some (.str "use" t)
theorem bo_abs : bootBuiltins "abs" = some (.builtin "abs") := by decide +kernel
theorem bo_all : bootBuiltins "all" = some (.builtin "all") := by decide +kernel
theorem bo_bool : bootBuiltins "bool" = some (.type "bool") := by decide +kernel
theorem bo_dict : bootBuiltins "dict" = some (.type "dict") := by decide +kernel
theorem bo_enumerate : bootBuiltins "enumerate" = some (.type "enumerate") := by decide +kernel
theorem bo_int : bootBuiltins "int" = some (.type "int") := by decide +kernel
theorem bo_isinstance : bootBuiltins "isinstance" = some (.builtin "isinstance") := by decide +kernel
theorem bo_len : bootBuiltins "len" = some (.builtin "len") := by decide +kernel
theorem bo_list : bootBuiltins "list" = some (.type "list") := by decide +kernel
theorem bo_max : bootBuiltins "max" = some (.builtin "max") := by decide +kernel
theorem bo_min : bootBuiltins "min" = some (.builtin "min") := by decide +kernel
theorem bo_range : bootBuiltins "range" = some (.type "range") := by decide +kernel
theorem bo_repr : bootBuiltins "repr" = some (.builtin "repr") := by decide +kernel
theorem bo_str : bootBuiltins "str" = some (.type "str") := by decide +kernel
theorem bo_tuple : bootBuiltins "tuple" = some (.type "tuple") := by decide +kernel
section
variable {P : Program} {w : World} {K : PySem.W.Frag} {mg : Str → Option Value} {base : Heap} {f0 f1 f2 f3 f4 f5 f6 f7 f8 f9 f10 f11 f12 f13 f14 f15 f16 f17 f18 f19 f20 f21 f22 f23 f24 f25 f26 f27 f28 f29 f30 f31 f32 f33 f34 f35 x0 y0 x1 y1 xb f900 f901 xW : Addr} {g0 g1 g2 g3 g4 g5 g6 g7 g8 g9 g10 g11 g12 g13 g14 g15 g16 g17 g18 g19 g20 g21 g22 g23 g24 g25 g26 g27 g28 g29 g30 g31 g32 g33 g34 g35 g900 g901 : FuncData} {W k : Nat}
structure AllFn (P : Program) (w : World) (K : PySem.W.Frag) (mg : Str → Option Value) (base : Heap) (W k : Nat) (f0 f1 f2 f3 f4 f5 f6 f7 f8 f9 f10 f11 f12 f13 f14 f15 f16 f17 f18 f19 f20 f21 f22 f23 f24 f25 f26 f27 f28 f29 f30 f31 f32 f33 f34 f35 x0 y0 x1 y1 xb f900 f901 xW : Addr) (g0 g1 g2 g3 g4 g5 g6 g7 g8 g9 g10 g11 g12 g13 g14 g15 g16 g17 g18 g19 g20 g21 g22 g23 g24 g25 g26 g27 g28 g29 g30 g31 g32 g33 g34 g35 g900 g901 : FuncData) : Prop where
  c0 : FnG P w K mg base k f0 g0 ["script"] (spF K (CL x0 x1) TL (modesOf T 0) (callF W T k 0))
  c1 : FnG P w K mg base k f1 g1 ["script"] (spF K (CL x0 x1) TL (modesOf T 1) (callF W T k 1))
  c2 : FnG P w K mg base k f2 g2 [] (spF K (CL x0 x1) TL (modesOf T 2) (callF W T k 2))
  c3 : FnG P w K mg base k f3 g3 ["hand", "most"] (spF K (CL x0 x1) TL (modesOf T 3) (callF W T k 3))
  c4 : FnG P w K mg base k f4 g4 ["hand", "limit"] (spF K (CL x0 x1) TL (modesOf T 4) (callF W T k 4))
  c5 : FnG P w K mg base k f5 g5 ["hand", "limit"] (spF K (CL x0 x1) TL (modesOf T 5) (callF W T k 5))
  c6 : FnG P w K mg base k f6 g6 ["library", "kind"] (spF K (CL x0 x1) TL (modesOf T 6) (callF W T k 6))
  c7 : FnG P w K mg base k f7 g7 ["hand", "library", "around", "kind", "budget"] (spF K (CL x0 x1) TL (modesOf T 7) (callF W T k 7))
  c8 : FnG P w K mg base k f8 g8 ["hand"] (spF K (CL x0 x1) TL (modesOf T 8) (callF W T k 8))
  c9 : FnG P w K mg base k f9 g9 ["hand", "library", "deep", "thing"] (spF K (CL x0 x1) TL (modesOf T 9) (callF W T k 9))
  c10 : FnG P w K mg base k f10 g10 ["wish", "library", "thing"] (spF K (CL x0 x1) TL (modesOf T 10) (callF W T k 10))
  c11 : FnG P w K mg base k f11 g11 ["wish", "thing"] (spF K (CL x0 x1) TL (modesOf T 11) (callF W T k 11))
  c12 : FnG P w K mg base k f12 g12 ["wish", "thing"] (spF K (CL x0 x1) TL (modesOf T 12) (callF W T k 12))
  c13 : FnG P w K mg base k f13 g13 ["hand"] (spF K (CL x0 x1) TL (modesOf T 13) (callF W T k 13))
  c14 : FnG P w K mg base k f14 g14 ["thing", "least", "most"] (spF K (CL x0 x1) TL (modesOf T 14) (callF W T k 14))
  c15 : FnG P w K mg base k f15 g15 ["thing"] (spF K (CL x0 x1) TL (modesOf T 15) (callF W T k 15))
  c16 : FnG P w K mg base k f16 g16 ["thing"] (spF K (CL x0 x1) TL (modesOf T 16) (callF W T k 16))
  c17 : FnG P w K mg base k f17 g17 ["its", "kind"] (spF K (CL x0 x1) TL (modesOf T 17) (callF W T k 17))
  c18 : FnG P w K mg base k f18 g18 ["hand", "things"] (spF K (CL x0 x1) TL (modesOf T 18) (callF W T k 18))
  c19 : FnG P w K mg base k f19 g19 ["hand"] (spF K (CL x0 x1) TL (modesOf T 19) (callF W T k 19))
  c20 : FnG P w K mg base k f20 g20 ["library", "thing"] (spF K (CL x0 x1) TL (modesOf T 20) (callF W T k 20))
  c21 : FnG P w K mg base k f21 g21 ["told", "due"] (spF K (CL x0 x1) TL (modesOf T 21) (callF W T k 21))
  c22 : FnG P w K mg base k f22 g22 ["wish", "program"] (spF K (CL x0 x1) TL (modesOf T 22) (callF W T k 22))
  c23 : FnG P w K mg base k f23 g23 ["names", "thing", "around"] (spF K (CL x0 x1) TL (modesOf T 23) (callF W T k 23))
  c24 : FnG P w K mg base k f24 g24 ["names", "program", "around"] (spF K (CL x0 x1) TL (modesOf T 24) (callF W T k 24))
  c25 : FnG P w K mg base k f25 g25 ["thing", "nested"] (spF K (CL x0 x1) TL (modesOf T 25) (callF W T k 25))
  c26 : FnG P w K mg base k f26 g26 ["library", "deep", "thing"] (spF K (CL x0 x1) TL (modesOf T 26) (callF W T k 26))
  c27 : FnG P w K mg base k f27 g27 ["library", "around", "thing"] (spF K (CL x0 x1) TL (modesOf T 27) (callF W T k 27))
  c28 : FnG P w K mg base k f28 g28 ["wish", "thing"] (spF K (CL x0 x1) TL (modesOf T 28) (callF W T k 28))
  c29 : FnG P w K mg base k f29 g29 ["thing"] (spF K (CL x0 x1) TL (modesOf T 29) (callF W T k 29))
  c30 : FnG P w K mg base k f30 g30 ["thing", "least", "most"] (spF K (CL x0 x1) TL (modesOf T 30) (callF W T k 30))
  c31 : FnG P w K mg base k f31 g31 ["thing", "word", "many"] (spF K (CL x0 x1) TL (modesOf T 31) (callF W T k 31))
  c32 : FnG P w K mg base k f32 g32 ["kind"] (spF K (CL x0 x1) TL (modesOf T 32) (callF W T k 32))
  c33 : FnG P w K mg base k f33 g33 ["thing"] (spF K (CL x0 x1) TL (modesOf T 33) (callF W T k 33))
  c34 : FnG P w K mg base k f34 g34 ["thing"] (spF K (CL x0 x1) TL (modesOf T 34) (callF W T k 34))
  c35 : FnG P w K mg base k f35 g35 ["thing"] (spF K (CL x0 x1) TL (modesOf T 35) (callF W T k 35))
  cw : ∀ j, k = j + 1 → FnG P w K mg base (j + 1) f900 g900 ["self", "library", "kind"] (spInit K xW (CL x0 x1) TL 0 fun dl dk => callF W T j 6 [.val dl, .val dk])
theorem ok0 (M : Top K mg f0 f1 f2 f3 f4 f5 f6 f7 f8 f9 f10 f11 f12 f13 f14 f15 f16 f17 f18 f19 f20 f21 f22 f23 f24 f25 f26 f27 f28 f29 f30 f31 f32 f33 f34 f35 x0 y0 x1 y1 xb f900 f901 xW g0 g1 g2 g3 g4 g5 g6 g7 g8 g9 g10 g11 g12 g13 g14 g15 g16 g17 g18 g19 g20 g21 g22 g23 g24 g25 g26 g27 g28 g29 g30 g31 g32 g33 g34 g35 g900 g901) (C : ∀ j, j ≤ k → AllFn prog w K mg base W j f0 f1 f2 f3 f4 f5 f6 f7 f8 f9 f10 f11 f12 f13 f14 f15 f16 f17 f18 f19 f20 f21 f22 f23 f24 f25 f26 f27 f28 f29 f30 f31 f32 f33 f34 f35 x0 y0 x1 y1 xb f900 f901 xW g0 g1 g2 g3 g4 g5 g6 g7 g8 g9 g10 g11 g12 g13 g14 g15 g16 g17 g18 g19 g20 g21 g22 g23 g24 g25 g26 g27 g28 g29 g30 g31 g32 g33 g34 g35 g900 g901) : FnG prog w K mg base (k + 1) f0 g0 ["script"] (spF K (CL x0 x1) TL fd0.md (runF W (enK W T k .stuck) fd0)) :=
  fn_den fd0 M.F0 sc0 rfl rfl rfl fun cdv A outer s H E hr hgd tk hcd => by
    have C0 := C k (Nat.le_refl k)
    have hu : (A.deeper (envOfC "law" (defScope s0) s.heap.objs.size f0 cdv)).units + 100 < cLine := by have := hr.un; omega
    have hk : (A.deeper (envOfC "law" (defScope s0) s.heap.objs.size f0 cdv)).units + 1 < cLine := by omega
    have hc : (A.deeper (envOfC "law" (defScope s0) s.heap.objs.size f0 cdv)).units + 65 < cLine := by omega
    have hpo := L2.passes_of (X := bodyCx prog w K mg base ["script", "hand", "spin", "library", "kind", "wish", "thing", "things", "again", "one"] "law" (defScope s0) f0 cdv A outer s H E) rfl
    exact (bd_cons (dset 1 sc0.nd (pd_call (f := 1) tk C0.c1 hr hgd (by rfl) M.m__law_hand M.k1 M.b1 (ad_cons (dv 0) ad_nil))) (bd_cons (sd_ite (td_not (dtr (pd_call0 (f := 2) tk C0.c2 hr hgd (by rfl) M.m__law_is_known_right M.k2 M.b2))) (bd_cons (sd_ret pd_bl) bd_nil) bd_nil) (bd_cons (sd_for hpo rfl (id_range1 (by rfl) M.z_range pd_int) (dn 2 sc0.nd) (bd_cons (sd_parC 3 4 rfl sc0.nd (by rfl) (by rfl) (by first | exact Or.inl rfl | exact Or.inr rfl) (by first | exact Or.inl rfl | exact Or.inr rfl) (by first | exact Or.inl rfl | exact Or.inr rfl) (by first | exact Or.inl rfl | exact Or.inr rfl) (pd_call (f := 3) tk C0.c3 hr hgd (by rfl) M.m__law_library M.k3 M.b3 (ad_cons (dv 1) (ad_cons pd_int ad_nil))) (pd_call (f := 4) tk C0.c4 hr hgd (by rfl) M.m__law_kind M.k4 M.b4 (ad_cons (dv 1) (ad_cons (pd_bin .add pd_int (pd_call (f := 5) tk C0.c5 hr hgd (by rfl) M.m__law_draw M.k5 M.b5 (ad_cons (dv 1) (ad_cons pd_int ad_nil)))) ad_nil))) (by rfl) (by rfl)) (bd_cons (sd_parC 5 6 rfl sc0.nd (by rfl) (by rfl) (by first | exact Or.inl rfl | exact Or.inr rfl) (by first | exact Or.inl rfl | exact Or.inr rfl) (by first | exact Or.inl rfl | exact Or.inr rfl) (by first | exact Or.inl rfl | exact Or.inr rfl) (pd_wishE fun j hj => by
  subst hj
  exact pd_wish (k := j + 1) (wp := 6) (b := 0) (by show decide (2 ≤ j + 2) = true; simp) tk M.WM M.WC ((C (j + 1) (by omega)).cw j rfl) hr hgd (by rfl) M.mx_Wish M.b900 (dv 3) (dv 4)) (pd_call (f := 7) tk C0.c7 hr hgd (by rfl) M.m__law_made M.k7 M.b7 (ad_cons (dv 1) (ad_cons (dv 3) (ad_cons (pd_lst vd_nil) (ad_cons (dv 4) (ad_cons pd_int ad_nil)))))) (by rfl) (by rfl)) (bd_cons (sd_ite (td_cmp .is hc (dv 6) pd_non (nomark _)) (bd_cons (dset 6 sc0.nd (pd_tup (vd_cons pd_str (vd_cons pd_str (vd_cons (pd_tup (vd_cons pd_str (vd_cons (pd_tup (vd_cons pd_str (vd_cons pd_str vd_nil))) (vd_cons (pd_tup (vd_cons pd_str (vd_cons pd_int (vd_cons pd_int vd_nil)))) vd_nil)))) vd_nil))))) bd_nil) bd_nil) (bd_cons (dset 7 sc0.nd (pd_bin .add (pd_lst (vd_cons (dv 6) (vd_cons (pd_call (f := 8) tk C0.c8 hr hgd (by rfl) M.m__law_deep_thing M.k8 M.b8 (ad_cons (dv 1) ad_nil)) vd_nil))) (pd_lc (own := [("again", 8)]) (by decide) rfl sc0.nd (blkOk_by (by rfl)) (id_range1 (by rfl) M.z_range pd_int) (fun _ _ _ _ _ => (dn 8 sc0.nd)) (fun _ _ _ _ _ => cd_nil) (fun _ _ _ _ _ => (pd_call (f := 9) takes0 C0.c9 hr hgd (by rfl) M.m__law_spoiled M.k9 M.b9 (ad_cons (dv 1) (ad_cons (dv 3) (ad_cons pd_int (ad_cons (dv 6) ad_nil))))))))) (bd_cons (dapp 7 (pd_tup (vd_cons pd_str (vd_cons (pd_call (f := 9) tk C0.c9 hr hgd (by rfl) M.m__law_spoiled M.k9 M.b9 (ad_cons (dv 1) (ad_cons (dv 3) (ad_cons pd_int (ad_cons (dv 6) ad_nil))))) (vd_cons (pd_tup (vd_cons pd_str (vd_cons (dv 6) (vd_cons (dv 6) vd_nil)))) vd_nil))))) (bd_cons (sd_ite (td_not (dtr (pd_bltB .all (call_allD rfl) (by rfl) M.z_all bo_all (rd_cons (pd_lc (own := [("one", 9)]) (by decide) rfl sc0.nd (blkOk_by (by rfl)) (id_ex (dv 7)) (fun _ _ _ _ _ => (dn 9 sc0.nd)) (fun _ _ _ _ _ => cd_nil) (fun _ _ _ _ _ => (pd_call (f := 10) takes0 C0.c10 hr hgd (by rfl) M.m__law_is_judged M.k10 M.b10 (ad_cons (dv 5) (ad_cons (dv 3) (ad_cons (dv 9) ad_nil)))))) rd_nil)))) (bd_cons (sd_ret pd_bl) bd_nil) bd_nil) bd_nil))))))) (bd_cons (sd_ret pd_bl) bd_nil))))
theorem ok1 (M : Top K mg f0 f1 f2 f3 f4 f5 f6 f7 f8 f9 f10 f11 f12 f13 f14 f15 f16 f17 f18 f19 f20 f21 f22 f23 f24 f25 f26 f27 f28 f29 f30 f31 f32 f33 f34 f35 x0 y0 x1 y1 xb f900 f901 xW g0 g1 g2 g3 g4 g5 g6 g7 g8 g9 g10 g11 g12 g13 g14 g15 g16 g17 g18 g19 g20 g21 g22 g23 g24 g25 g26 g27 g28 g29 g30 g31 g32 g33 g34 g35 g900 g901) (C : ∀ j, j ≤ k → AllFn prog w K mg base W j f0 f1 f2 f3 f4 f5 f6 f7 f8 f9 f10 f11 f12 f13 f14 f15 f16 f17 f18 f19 f20 f21 f22 f23 f24 f25 f26 f27 f28 f29 f30 f31 f32 f33 f34 f35 x0 y0 x1 y1 xb f900 f901 xW g0 g1 g2 g3 g4 g5 g6 g7 g8 g9 g10 g11 g12 g13 g14 g15 g16 g17 g18 g19 g20 g21 g22 g23 g24 g25 g26 g27 g28 g29 g30 g31 g32 g33 g34 g35 g900 g901) : FnG prog w K mg base (k + 1) f1 g1 ["script"] (spF K (CL x0 x1) TL fd1.md (runF W (enK W T k .stuck) fd1)) :=
  fn_den fd1 M.F1 sc1 rfl rfl rfl fun cdv A outer s H E hr hgd tk hcd => by
    have C0 := C k (Nat.le_refl k)
    have hu : (A.deeper (envOfC "_law_hand" (defScope s1) s.heap.objs.size f1 cdv)).units + 100 < cLine := by have := hr.un; omega
    have hk : (A.deeper (envOfC "_law_hand" (defScope s1) s.heap.objs.size f1 cdv)).units + 1 < cLine := by omega
    have hc : (A.deeper (envOfC "_law_hand" (defScope s1) s.heap.objs.size f1 cdv)).units + 65 < cLine := by omega
    have hpo := L2.passes_of (X := bodyCx prog w K mg base ["script", "cells", "cell"] "_law_hand" (defScope s1) f1 cdv A outer s H E) rfl
    exact (bd_cons (sd_setLc (own := [("cell", 2)]) rfl (by decide) rfl sc1.nd (by rfl) (by rfl) (by rfl) (blkOk_by (by rfl)) (id_ex (pd_sl (dv 0) pp_none (pp_some pd_int))) (fun _ _ _ _ _ => (dn 2 sc1.nd)) (fun _ _ _ _ _ => cd_nil) (fun _ _ _ _ _ => (pd_bltB .abs call_absD (by rfl) M.z_abs bo_abs (rd_cons (pd_bltT .int call_intD (by rfl) M.z_int bo_int (rd_cons (dv 2) rd_nil)) rd_nil)))) (bd_cons (sd_ret (pd_lst (vd_cons (dv 1) (vd_cons pd_int (vd_cons pd_int (vd_cons (pd_bin .add pd_int (pd_bin .mul pd_int (pd_bltB .len call_lenD (by rfl) M.z_len bo_len (rd_cons (dv 1) rd_nil)))) (vd_cons pd_int vd_nil))))))) bd_nil))
theorem ok2 (M : Top K mg f0 f1 f2 f3 f4 f5 f6 f7 f8 f9 f10 f11 f12 f13 f14 f15 f16 f17 f18 f19 f20 f21 f22 f23 f24 f25 f26 f27 f28 f29 f30 f31 f32 f33 f34 f35 x0 y0 x1 y1 xb f900 f901 xW g0 g1 g2 g3 g4 g5 g6 g7 g8 g9 g10 g11 g12 g13 g14 g15 g16 g17 g18 g19 g20 g21 g22 g23 g24 g25 g26 g27 g28 g29 g30 g31 g32 g33 g34 g35 g900 g901) (C : ∀ j, j ≤ k → AllFn prog w K mg base W j f0 f1 f2 f3 f4 f5 f6 f7 f8 f9 f10 f11 f12 f13 f14 f15 f16 f17 f18 f19 f20 f21 f22 f23 f24 f25 f26 f27 f28 f29 f30 f31 f32 f33 f34 f35 x0 y0 x1 y1 xb f900 f901 xW g0 g1 g2 g3 g4 g5 g6 g7 g8 g9 g10 g11 g12 g13 g14 g15 g16 g17 g18 g19 g20 g21 g22 g23 g24 g25 g26 g27 g28 g29 g30 g31 g32 g33 g34 g35 g900 g901) : FnG prog w K mg base (k + 1) f2 g2 [] (spF K (CL x0 x1) TL fd2.md (runF W (enK W T k .stuck) fd2)) :=
  fn_den fd2 M.F2 sc2 rfl rfl rfl fun cdv A outer s H E hr hgd tk hcd => by
    have C0 := C k (Nat.le_refl k)
    have hu : (A.deeper (envOfC "_law_is_known_right" (defScope s2) s.heap.objs.size f2 cdv)).units + 100 < cLine := by have := hr.un; omega
    have hk : (A.deeper (envOfC "_law_is_known_right" (defScope s2) s.heap.objs.size f2 cdv)).units + 1 < cLine := by omega
    have hc : (A.deeper (envOfC "_law_is_known_right" (defScope s2) s.heap.objs.size f2 cdv)).units + 65 < cLine := by omega
    have hpo := L2.passes_of (X := bodyCx prog w K mg base ["wish", "things", "thing"] "_law_is_known_right" (defScope s2) f2 cdv A outer s H E) rfl
    exact (bd_cons (dset 0 sc2.nd (pd_wishE fun j hj => by
  subst hj
  exact pd_wish (k := j + 1) (wp := 6) (b := 0) (by show decide (2 ≤ j + 2) = true; simp) tk M.WM M.WC ((C (j + 1) (by omega)).cw j rfl) hr hgd (by rfl) M.mx_Wish M.b900 (pd_tup (vd_cons (pd_tup (vd_cons pd_str (vd_cons (pd_tup (vd_cons pd_str (vd_cons pd_str vd_nil))) vd_nil))) (vd_cons (pd_tup (vd_cons pd_str (vd_cons pd_str vd_nil))) vd_nil))) pd_str)) (bd_cons (dset 1 sc2.nd (pd_lst (vd_cons pd_int (vd_cons pd_str (vd_cons pd_non (vd_cons (pd_tup (vd_cons pd_str (vd_cons pd_str (vd_cons pd_int vd_nil)))) (vd_cons (pd_tup (vd_cons pd_str (vd_cons pd_str vd_nil))) (vd_cons (pd_tup (vd_cons pd_str (vd_cons pd_str (vd_cons (pd_tup (vd_cons pd_str (vd_cons pd_str (vd_cons pd_int vd_nil)))) vd_nil)))) (vd_cons (pd_tup (vd_cons pd_str (vd_cons (pd_tup (vd_cons pd_str vd_nil)) (vd_cons pd_int vd_nil)))) (vd_cons pd_bl (vd_cons (pd_neg pd_int) vd_nil))))))))))) (bd_cons (dset 1 sc2.nd (pd_bin .add (dv 1) (pd_lst (vd_cons (pd_tup (vd_cons pd_str (vd_cons pd_str (vd_cons (pd_tup (vd_cons pd_str (vd_cons pd_str (vd_cons pd_int vd_nil)))) vd_nil)))) (vd_cons (pd_lst (vd_cons pd_str (vd_cons pd_str (vd_cons pd_str vd_nil)))) (vd_cons (pd_tup (vd_cons pd_str (vd_cons pd_str (vd_cons pd_int vd_nil)))) vd_nil)))))) (bd_cons (dapp 1 (pd_tup (vd_cons pd_str (vd_cons (pd_tup (vd_cons pd_str (vd_cons pd_str (vd_cons pd_str vd_nil)))) (vd_cons pd_non vd_nil))))) (bd_cons (sd_ret (pd_bltB .all (call_allD rfl) (by rfl) M.z_all bo_all (rd_cons (pd_lc (own := [("thing", 2)]) (by decide) rfl sc2.nd (blkOk_by (by rfl)) (id_ex (dv 1)) (fun _ _ _ _ _ => (dn 2 sc2.nd)) (fun _ _ _ _ _ => cd_nil) (fun _ _ _ _ _ => (pd_and (pd_cmp .eq hc (pd_call (f := 11) takes0 C0.c11 hr hgd (by rfl) M.m__law_told M.k11 M.b11 (ad_cons (dv 0) (ad_cons (dv 2) ad_nil))) (pd_tup (vd_cons pd_str vd_nil)) (nomark _)) (pd_one (pd_cmp .is hc (pd_call (f := 12) takes0 C0.c12 hr hgd (by rfl) M.m_is_program M.k12 M.b12 (ad_cons (dv 0) (ad_cons (dv 2) ad_nil))) pd_bl (nomark _)))))) rd_nil))) bd_nil)))))
theorem ok3 (M : Top K mg f0 f1 f2 f3 f4 f5 f6 f7 f8 f9 f10 f11 f12 f13 f14 f15 f16 f17 f18 f19 f20 f21 f22 f23 f24 f25 f26 f27 f28 f29 f30 f31 f32 f33 f34 f35 x0 y0 x1 y1 xb f900 f901 xW g0 g1 g2 g3 g4 g5 g6 g7 g8 g9 g10 g11 g12 g13 g14 g15 g16 g17 g18 g19 g20 g21 g22 g23 g24 g25 g26 g27 g28 g29 g30 g31 g32 g33 g34 g35 g900 g901) (C : ∀ j, j ≤ k → AllFn prog w K mg base W j f0 f1 f2 f3 f4 f5 f6 f7 f8 f9 f10 f11 f12 f13 f14 f15 f16 f17 f18 f19 f20 f21 f22 f23 f24 f25 f26 f27 f28 f29 f30 f31 f32 f33 f34 f35 x0 y0 x1 y1 xb f900 f901 xW g0 g1 g2 g3 g4 g5 g6 g7 g8 g9 g10 g11 g12 g13 g14 g15 g16 g17 g18 g19 g20 g21 g22 g23 g24 g25 g26 g27 g28 g29 g30 g31 g32 g33 g34 g35 g900 g901) : FnG prog w K mg base (k + 1) f3 g3 ["hand", "most"] (spF K (CL x0 x1) TL fd3.md (runF W (enK W T k .stuck) fd3)) :=
  fn_den fd3 M.F3 sc3 rfl rfl rfl fun cdv A outer s H E hr hgd tk hcd => by
    have C0 := C k (Nat.le_refl k)
    have hu : (A.deeper (envOfC "_law_library" (defScope s3) s.heap.objs.size f3 cdv)).units + 100 < cLine := by have := hr.un; omega
    have hk : (A.deeper (envOfC "_law_library" (defScope s3) s.heap.objs.size f3 cdv)).units + 1 < cLine := by omega
    have hc : (A.deeper (envOfC "_law_library" (defScope s3) s.heap.objs.size f3 cdv)).units + 65 < cLine := by omega
    have hpo := L2.passes_of (X := bodyCx prog w K mg base ["hand", "most", "found", "names_here", "at"] "_law_library" (defScope s3) f3 cdv A outer s H E) rfl
    exact (bd_cons (sd_par 2 3 rfl sc3.nd (by rfl) (by rfl) (by decide) (by rfl) (by rfl) (pd_lst vd_nil) (pd_lst (vd_cons pd_str (vd_cons pd_str (vd_cons pd_str (vd_cons pd_str (vd_cons pd_str (vd_cons pd_str (vd_cons pd_str vd_nil)))))))) (by rfl) (by rfl)) (bd_cons (sd_for hpo rfl (id_range1 (by rfl) M.z_range (pd_call (f := 5) tk C0.c5 hr hgd (by rfl) M.m__law_draw M.k5 M.b5 (ad_cons (dv 0) (ad_cons (pd_bin .add (dv 1) pd_int) ad_nil)))) (dn 4 sc3.nd) (bd_cons (dapp 2 (pd_tup (vd_cons (pd_idx (dv 3) (dv 4) (fun _ _ => rfl)) (vd_cons (pd_call (f := 4) tk C0.c4 hr hgd (by rfl) M.m__law_kind M.k4 M.b4 (ad_cons (dv 0) (ad_cons (pd_bin .add pd_int (pd_call (f := 5) tk C0.c5 hr hgd (by rfl) M.m__law_draw M.k5 M.b5 (ad_cons (dv 0) (ad_cons pd_int ad_nil)))) ad_nil))) vd_nil)))) bd_nil)) (bd_cons (sd_ite (td_cmp .gt hc (pd_call (f := 5) tk C0.c5 hr hgd (by rfl) M.m__law_draw M.k5 M.b5 (ad_cons (dv 0) (ad_cons pd_int ad_nil))) pd_int (nomark _)) (bd_cons (dset 2 sc3.nd (pd_bin .add (dv 2) (pd_lst (vd_cons (pd_tup (vd_cons pd_str (vd_cons pd_str vd_nil))) (vd_cons (pd_tup (vd_cons pd_str (vd_cons pd_str vd_nil))) (vd_cons (pd_tup (vd_cons pd_str (vd_cons pd_str vd_nil))) (vd_cons (pd_tup (vd_cons pd_str (vd_cons pd_str vd_nil))) (vd_cons (pd_tup (vd_cons pd_str (vd_cons pd_str vd_nil))) vd_nil)))))))) bd_nil) bd_nil) (bd_cons (sd_ret (pd_bltT .tuple call_tupleD (by rfl) M.z_tuple bo_tuple (rd_cons (dv 2) rd_nil))) bd_nil))))
theorem ok4 (M : Top K mg f0 f1 f2 f3 f4 f5 f6 f7 f8 f9 f10 f11 f12 f13 f14 f15 f16 f17 f18 f19 f20 f21 f22 f23 f24 f25 f26 f27 f28 f29 f30 f31 f32 f33 f34 f35 x0 y0 x1 y1 xb f900 f901 xW g0 g1 g2 g3 g4 g5 g6 g7 g8 g9 g10 g11 g12 g13 g14 g15 g16 g17 g18 g19 g20 g21 g22 g23 g24 g25 g26 g27 g28 g29 g30 g31 g32 g33 g34 g35 g900 g901) (C : ∀ j, j ≤ k → AllFn prog w K mg base W j f0 f1 f2 f3 f4 f5 f6 f7 f8 f9 f10 f11 f12 f13 f14 f15 f16 f17 f18 f19 f20 f21 f22 f23 f24 f25 f26 f27 f28 f29 f30 f31 f32 f33 f34 f35 x0 y0 x1 y1 xb f900 f901 xW g0 g1 g2 g3 g4 g5 g6 g7 g8 g9 g10 g11 g12 g13 g14 g15 g16 g17 g18 g19 g20 g21 g22 g23 g24 g25 g26 g27 g28 g29 g30 g31 g32 g33 g34 g35 g900 g901) : FnG prog w K mg base (k + 1) f4 g4 ["hand", "limit"] (spF K (CL x0 x1) TL fd4.md (runF W (enK W T k .stuck) fd4)) :=
  fn_den fd4 M.F4 sc4 rfl rfl rfl fun cdv A outer s H E hr hgd tk hcd => by
    have C0 := C k (Nat.le_refl k)
    have hu : (A.deeper (envOfC "_law_kind" (defScope s4) s.heap.objs.size f4 cdv)).units + 100 < cLine := by have := hr.un; omega
    have hk : (A.deeper (envOfC "_law_kind" (defScope s4) s.heap.objs.size f4 cdv)).units + 1 < cLine := by omega
    have hc : (A.deeper (envOfC "_law_kind" (defScope s4) s.heap.objs.size f4 cdv)).units + 65 < cLine := by omega
    have hpo := L2.passes_of (X := bodyCx prog w K mg base ["hand", "limit", "front"] "_law_kind" (defScope s4) f4 cdv A outer s H E) rfl
    exact (bd_cons (sd_ite (td_cmp .lt hc (dv 1) pd_int (nomark _)) (bd_cons (sd_ret (pd_call (f := 13) tk C0.c13 hr hgd (by rfl) M.m__law_atom M.k13 M.b13 (ad_cons (dv 0) ad_nil))) bd_nil) bd_nil) (bd_cons (dset 2 sc4.nd (pd_bin .add pd_int (pd_call (f := 5) tk C0.c5 hr hgd (by rfl) M.m__law_draw M.k5 M.b5 (ad_cons (dv 0) (ad_cons (pd_bin .sub (dv 1) pd_int) ad_nil))))) (bd_cons (dset 2 sc4.nd (pd_ite (td_cmp .eq hc (pd_call (f := 5) tk C0.c5 hr hgd (by rfl) M.m__law_draw M.k5 M.b5 (ad_cons (dv 0) (ad_cons pd_int ad_nil))) pd_int (nomark _)) pd_int (dv 2))) (bd_cons (sd_ret (pd_tup (vd_cons (pd_call (f := 4) tk C0.c4 hr hgd (by rfl) M.m__law_kind M.k4 M.b4 (ad_cons (dv 0) (ad_cons (dv 2) ad_nil))) (vd_cons (pd_call (f := 4) tk C0.c4 hr hgd (by rfl) M.m__law_kind M.k4 M.b4 (ad_cons (dv 0) (ad_cons (pd_bin .sub (dv 1) (dv 2)) ad_nil))) vd_nil)))) bd_nil))))
theorem ok5 (M : Top K mg f0 f1 f2 f3 f4 f5 f6 f7 f8 f9 f10 f11 f12 f13 f14 f15 f16 f17 f18 f19 f20 f21 f22 f23 f24 f25 f26 f27 f28 f29 f30 f31 f32 f33 f34 f35 x0 y0 x1 y1 xb f900 f901 xW g0 g1 g2 g3 g4 g5 g6 g7 g8 g9 g10 g11 g12 g13 g14 g15 g16 g17 g18 g19 g20 g21 g22 g23 g24 g25 g26 g27 g28 g29 g30 g31 g32 g33 g34 g35 g900 g901) (C : ∀ j, j ≤ k → AllFn prog w K mg base W j f0 f1 f2 f3 f4 f5 f6 f7 f8 f9 f10 f11 f12 f13 f14 f15 f16 f17 f18 f19 f20 f21 f22 f23 f24 f25 f26 f27 f28 f29 f30 f31 f32 f33 f34 f35 x0 y0 x1 y1 xb f900 f901 xW g0 g1 g2 g3 g4 g5 g6 g7 g8 g9 g10 g11 g12 g13 g14 g15 g16 g17 g18 g19 g20 g21 g22 g23 g24 g25 g26 g27 g28 g29 g30 g31 g32 g33 g34 g35 g900 g901) : FnG prog w K mg base (k + 1) f5 g5 ["hand", "limit"] (spF K (CL x0 x1) TL fd5.md (runF W (enK W T k .stuck) fd5)) :=
  fn_den fd5 M.F5 sc5 rfl rfl rfl fun cdv A outer s H E hr hgd tk hcd => by
    have C0 := C k (Nat.le_refl k)
    have hu : (A.deeper (envOfC "_law_draw" (defScope s5) s.heap.objs.size f5 cdv)).units + 100 < cLine := by have := hr.un; omega
    have hk : (A.deeper (envOfC "_law_draw" (defScope s5) s.heap.objs.size f5 cdv)).units + 1 < cLine := by omega
    have hc : (A.deeper (envOfC "_law_draw" (defScope s5) s.heap.objs.size f5 cdv)).units + 65 < cLine := by omega
    have hpo := L2.passes_of (X := bodyCx prog w K mg base ["hand", "limit", "cell", "digit", "number"] "_law_draw" (defScope s5) f5 cdv A outer s H E) rfl
    exact (bd_cons (sd_ite (tdp (td_and (td_cmp .eq hc (pd_idx (dv 0) pd_int (fun _ _ => rfl)) pd_int (nomark _)) (tand1 (td_cmp .lt hc (pd_idx (dv 0) pd_int (fun _ _ => rfl)) (pd_bltB .len call_lenD (by rfl) M.z_len bo_len (rd_cons (pd_idx (dv 0) pd_int (fun _ _ => rfl)) rd_nil)) (nomark _))))) (bd_cons (dset 2 sc5.nd (pd_idx (pd_idx (dv 0) pd_int (fun _ _ => rfl)) (pd_idx (dv 0) pd_int (fun _ _ => rfl)) (fun _ _ => rfl))) (bd_cons (sd_put 0 (by rfl) (by first | exact Or.inl rfl | exact Or.inr (Or.inl rfl) | exact Or.inr (Or.inr rfl)) (pd_bin .add (pd_idx (dv 0) pd_int (fun _ _ => rfl)) pd_int) pd_int (by rfl) (by rfl)) (bd_cons (sd_put 0 (by rfl) (by first | exact Or.inl rfl | exact Or.inr (Or.inl rfl) | exact Or.inr (Or.inr rfl)) (pd_bin .mod (pd_bltT .int call_intD (by rfl) M.z_int bo_int (rd_cons (pd_bin .add (pd_bin .add (pd_bin .mul (pd_idx (dv 0) pd_int (fun _ _ => rfl)) pd_int) (dv 2)) pd_int) rd_nil)) pd_int) pd_int (by rfl) (by rfl)) (bd_cons (sd_ite (td_cmp .ge hc (dv 2) (pd_bin .pow pd_int pd_int) (nomark _)) (bd_cons (sd_put 0 (by rfl) (by first | exact Or.inl rfl | exact Or.inr (Or.inl rfl) | exact Or.inr (Or.inr rfl)) (dv 2) pd_int (by rfl) (by rfl)) bd_nil) bd_nil) bd_nil)))) bd_nil) (bd_cons (sd_ite (td_cmp .gt hc (pd_idx (dv 0) pd_int (fun _ _ => rfl)) pd_int (nomark _)) (bd_cons (dset 3 sc5.nd (pd_bin .mod (pd_bltT .int call_intD (by rfl) M.z_int bo_int (rd_cons (pd_idx (dv 0) pd_int (fun _ _ => rfl)) rd_nil)) (dv 1))) (bd_cons (sd_put 0 (by rfl) (by first | exact Or.inl rfl | exact Or.inr (Or.inl rfl) | exact Or.inr (Or.inr rfl)) (pd_bin .fdiv (pd_idx (dv 0) pd_int (fun _ _ => rfl)) (dv 1)) pd_int (by rfl) (by rfl)) (bd_cons (sd_ret (dv 3)) bd_nil))) bd_nil) (bd_cons (sd_put 0 (by rfl) (by first | exact Or.inl rfl | exact Or.inr (Or.inl rfl) | exact Or.inr (Or.inr rfl)) (pd_bin .add (pd_idx (dv 0) pd_int (fun _ _ => rfl)) pd_int) pd_int (by rfl) (by rfl)) (bd_cons (dset 4 sc5.nd (pd_bin .mod (pd_bltT .int call_intD (by rfl) M.z_int bo_int (rd_cons (pd_bin .mul (pd_bltT .int call_intD (by rfl) M.z_int bo_int (rd_cons (pd_bin .add (pd_idx (dv 0) pd_int (fun _ _ => rfl)) (pd_bin .mul pd_int (pd_idx (dv 0) pd_int (fun _ _ => rfl)))) rd_nil)) pd_int) rd_nil)) pd_int)) (bd_cons (dset 4 sc5.nd (pd_bin .mod (pd_bltT .int call_intD (by rfl) M.z_int bo_int (rd_cons (pd_bin .mul (dv 4) (pd_bin .add (pd_bin .fdiv (dv 4) pd_int) pd_int)) rd_nil)) pd_int)) (bd_cons (dset 4 sc5.nd (pd_bin .mod (pd_bltT .int call_intD (by rfl) M.z_int bo_int (rd_cons (pd_bin .mul (dv 4) (pd_bin .add (pd_bin .fdiv (dv 4) pd_int) pd_int)) rd_nil)) pd_int)) (bd_cons (sd_ret (pd_bin .mod (pd_bltT .int call_intD (by rfl) M.z_int bo_int (rd_cons (pd_bin .fdiv (dv 4) pd_int) rd_nil)) (dv 1))) bd_nil)))))))
theorem ok6 (M : Top K mg f0 f1 f2 f3 f4 f5 f6 f7 f8 f9 f10 f11 f12 f13 f14 f15 f16 f17 f18 f19 f20 f21 f22 f23 f24 f25 f26 f27 f28 f29 f30 f31 f32 f33 f34 f35 x0 y0 x1 y1 xb f900 f901 xW g0 g1 g2 g3 g4 g5 g6 g7 g8 g9 g10 g11 g12 g13 g14 g15 g16 g17 g18 g19 g20 g21 g22 g23 g24 g25 g26 g27 g28 g29 g30 g31 g32 g33 g34 g35 g900 g901) (C : ∀ j, j ≤ k → AllFn prog w K mg base W j f0 f1 f2 f3 f4 f5 f6 f7 f8 f9 f10 f11 f12 f13 f14 f15 f16 f17 f18 f19 f20 f21 f22 f23 f24 f25 f26 f27 f28 f29 f30 f31 f32 f33 f34 f35 x0 y0 x1 y1 xb f900 f901 xW g0 g1 g2 g3 g4 g5 g6 g7 g8 g9 g10 g11 g12 g13 g14 g15 g16 g17 g18 g19 g20 g21 g22 g23 g24 g25 g26 g27 g28 g29 g30 g31 g32 g33 g34 g35 g900 g901) : FnG prog w K mg base (k + 1) f6 g6 ["library", "kind"] (spF K (CL x0 x1) TL fd6.md (runF W (enK W T k .stuck) fd6)) :=
  fn_den fd6 M.F6 sc6 rfl rfl rfl fun cdv A outer s H E hr hgd tk hcd => by
    have C0 := C k (Nat.le_refl k)
    have hu : (A.deeper (envOfC "wrong_part" (defScope s6) s.heap.objs.size f6 cdv)).units + 100 < cLine := by have := hr.un; omega
    have hk : (A.deeper (envOfC "wrong_part" (defScope s6) s.heap.objs.size f6 cdv)).units + 1 < cLine := by omega
    have hc : (A.deeper (envOfC "wrong_part" (defScope s6) s.heap.objs.size f6 cdv)).units + 65 < cLine := by omega
    have hpo := L2.passes_of (X := bodyCx prog w K mg base ["library", "kind", "known", "number", "item"] "wrong_part" (defScope s6) f6 cdv A outer s H E) rfl
    exact (bd_cons (sd_ite (td_not (dtr (pd_call (f := 14) tk C0.c14 hr hgd (by rfl) M.m_is_tuple M.k14 M.b14 (ad_cons (dv 0) (ad_cons pd_int (ad_cons (dgi M.c_MOST_NAMES) ad_nil)))))) (bd_cons (sd_ret pd_str) bd_nil) bd_nil) (bd_cons (sd_ite (td_not (dtr (pd_bltB .all (call_allD rfl) (by rfl) M.z_all bo_all (rd_cons (pd_lc (own := [("item", 4)]) (by decide) rfl sc6.nd (blkOk_by (by rfl)) (id_ex (dv 0)) (fun _ _ _ _ _ => (dn 4 sc6.nd)) (fun _ _ _ _ _ => cd_nil) (fun _ _ _ _ _ => (pd_call (f := 14) takes0 C0.c14 hr hgd (by rfl) M.m_is_tuple M.k14 M.b14 (ad_cons (dv 4) (ad_cons pd_int (ad_cons pd_int ad_nil)))))) rd_nil)))) (bd_cons (sd_ret pd_str) bd_nil) bd_nil) (bd_cons (dset 2 sc6.nd pd_dnew) (bd_cons (sd_for hpo rfl (id_enum (by rfl) M.z_enumerate (dv 0)) (gd_t rfl (dngs 3 sc6.nd (dngs 4 sc6.nd ngs_nil)) rfl) (bd_cons (sd_ite (tdp (td_or (td_not (dtr (pd_call (f := 15) tk C0.c15 hr hgd (by rfl) M.m_is_name M.k15 M.b15 (ad_cons (pd_idx (dv 4) pd_int (fun _ _ => rfl)) ad_nil)))) (td_or (td_cmp .isin hc (pd_idx (dv 4) pd_int (fun _ _ => rfl)) (dv 2) (by rfl)) (tor1 (td_not (dtr (pd_call (f := 16) tk C0.c16 hr hgd (by rfl) M.m_is_kind M.k16 M.b16 (ad_cons (pd_idx (dv 4) pd_int (fun _ _ => rfl)) ad_nil)))))))) (bd_cons (sd_ret (dv 3)) bd_nil) bd_nil) (bd_cons (sd_putD 2 hk pd_bl (pd_idx (dv 4) pd_int (fun _ _ => rfl))) bd_nil))) (bd_cons (sd_ret (pd_ite (dtr (pd_call (f := 16) tk C0.c16 hr hgd (by rfl) M.m_is_kind M.k16 M.b16 (ad_cons (dv 1) ad_nil))) pd_non pd_str)) bd_nil)))))
theorem ok7 (M : Top K mg f0 f1 f2 f3 f4 f5 f6 f7 f8 f9 f10 f11 f12 f13 f14 f15 f16 f17 f18 f19 f20 f21 f22 f23 f24 f25 f26 f27 f28 f29 f30 f31 f32 f33 f34 f35 x0 y0 x1 y1 xb f900 f901 xW g0 g1 g2 g3 g4 g5 g6 g7 g8 g9 g10 g11 g12 g13 g14 g15 g16 g17 g18 g19 g20 g21 g22 g23 g24 g25 g26 g27 g28 g29 g30 g31 g32 g33 g34 g35 g900 g901) (C : ∀ j, j ≤ k → AllFn prog w K mg base W j f0 f1 f2 f3 f4 f5 f6 f7 f8 f9 f10 f11 f12 f13 f14 f15 f16 f17 f18 f19 f20 f21 f22 f23 f24 f25 f26 f27 f28 f29 f30 f31 f32 f33 f34 f35 x0 y0 x1 y1 xb f900 f901 xW g0 g1 g2 g3 g4 g5 g6 g7 g8 g9 g10 g11 g12 g13 g14 g15 g16 g17 g18 g19 g20 g21 g22 g23 g24 g25 g26 g27 g28 g29 g30 g31 g32 g33 g34 g35 g900 g901) : FnG prog w K mg base (k + 1) f7 g7 ["hand", "library", "around", "kind", "budget"] (spF K (CL x0 x1) TL fd7.md (runF W (enK W T k .stuck) fd7)) :=
  fn_den fd7 M.F7 sc7 rfl rfl rfl fun cdv A outer s H E hr hgd tk hcd => by
    have C0 := C k (Nat.le_refl k)
    have hu : (A.deeper (envOfC "_law_made" (defScope s7) s.heap.objs.size f7 cdv)).units + 100 < cLine := by have := hr.un; omega
    have hk : (A.deeper (envOfC "_law_made" (defScope s7) s.heap.objs.size f7 cdv)).units + 1 < cLine := by omega
    have hc : (A.deeper (envOfC "_law_made" (defScope s7) s.heap.objs.size f7 cdv)).units + 65 < cLine := by omega
    have hpo := L2.passes_of (X := bodyCx prog w K mg base ["hand", "library", "around", "kind", "budget", "ways", "name", "its", "number", "way", "body", "other_kind", "other", "few", "head", "limit", "found", "spin", "one", "two"] "_law_made" (defScope s7) f7 cdv A outer s H E) rfl
    exact (bd_cons (dset 5 sc7.nd (pd_lst vd_nil)) (bd_cons (sd_for hpo rfl (id_ex (dv 1)) (gd_t rfl (dngs 6 sc7.nd (dngs 7 sc7.nd ngs_nil)) rfl) (bd_cons (dext 5 (pd_lc (own := [("limit", 15)]) (by decide) rfl sc7.nd (blkOk_by (by rfl)) (id_ex (pd_call (f := 17) tk C0.c17 hr hgd (by rfl) M.m__law_drops M.k17 M.b17 (ad_cons (dv 7) (ad_cons (dv 3) ad_nil)))) (fun _ _ _ _ _ => (dn 15 sc7.nd)) (fun _ _ _ _ _ => cd_nil) (fun _ _ _ _ _ => (pd_tup (vd_cons (dv 6) (vd_cons (dv 15) vd_nil)))))) bd_nil)) (bd_cons (sd_for hpo rfl (id_enum (by rfl) M.z_enumerate (dv 2)) (gd_t rfl (dngs 8 sc7.nd (dngs 7 sc7.nd ngs_nil)) rfl) (bd_cons (dext 5 (pd_bin .mul (pd_lc (own := [("limit", 15)]) (by decide) rfl sc7.nd (blkOk_by (by rfl)) (id_ex (pd_call (f := 17) tk C0.c17 hr hgd (by rfl) M.m__law_drops M.k17 M.b17 (ad_cons (dv 7) (ad_cons (dv 3) ad_nil)))) (fun _ _ _ _ _ => (dn 15 sc7.nd)) (fun _ _ _ _ _ => cd_nil) (fun _ _ _ _ _ => (pd_tup (vd_cons (dv 8) (vd_cons (dv 15) vd_nil))))) pd_int)) bd_nil)) (bd_cons (dset 9 sc7.nd (pd_call (f := 5) tk C0.c5 hr hgd (by rfl) M.m__law_draw M.k5 M.b5 (ad_cons (dv 0) (ad_cons pd_int ad_nil)))) (bd_cons (sd_ite (tdp (td_and (td_not (dtr (pd_isi .str (by rfl) M.z_isinstance (dv 3) (by rfl) M.z_str bo_str))) (tand1 (tdp (td_or (td_cmp .lt hc (dv 9) pd_int (nomark _)) (td_or (td_cmp .eq hc (dv 5) (pd_lst vd_nil) (nomark _)) (tor1 (td_cmp .lt hc (dv 4) pd_int (nomark _))))))))) (bd_cons (dset 10 sc7.nd (pd_call (f := 7) tk C0.c7 hr hgd (by rfl) M.m__law_made M.k7 M.b7 (ad_cons (dv 0) (ad_cons (dv 1) (ad_cons (pd_bin .add (dv 2) (pd_lst (vd_cons (pd_idx (dv 3) pd_int (fun _ _ => rfl)) vd_nil))) (ad_cons (pd_idx (dv 3) pd_int (fun _ _ => rfl)) (ad_cons (pd_bin .sub (dv 4) pd_int) ad_nil))))))) (bd_cons (sd_ret (pd_ite (td_cmp .is hc (dv 10) pd_non (nomark _)) pd_non (pd_tup (vd_cons pd_str (vd_cons (pd_idx (dv 3) pd_int (fun _ _ => rfl)) (vd_cons (dv 10) vd_nil)))))) bd_nil)) bd_nil) (bd_cons (sd_ite (tdp (td_and (td_cmp .gt hc (dv 4) pd_int (nomark _)) (tand1 (td_cmp .eq hc (dv 9) pd_int (nomark _))))) (bd_cons (dset 11 sc7.nd (pd_call (f := 4) tk C0.c4 hr hgd (by rfl) M.m__law_kind M.k4 M.b4 (ad_cons (dv 0) (ad_cons (pd_bin .add pd_int (pd_call (f := 5) tk C0.c5 hr hgd (by rfl) M.m__law_draw M.k5 M.b5 (ad_cons (dv 0) (ad_cons pd_int ad_nil)))) ad_nil)))) (bd_cons (dset 12 sc7.nd (pd_call (f := 7) tk C0.c7 hr hgd (by rfl) M.m__law_made M.k7 M.b7 (ad_cons (dv 0) (ad_cons (dv 1) (ad_cons (dv 2) (ad_cons (dv 11) (ad_cons (pd_bin .fdiv (dv 4) pd_int) ad_nil))))))) (bd_cons (dset 10 sc7.nd (pd_call (f := 7) tk C0.c7 hr hgd (by rfl) M.m__law_made M.k7 M.b7 (ad_cons (dv 0) (ad_cons (dv 1) (ad_cons (pd_bin .add (dv 2) (pd_lst (vd_cons (dv 11) vd_nil))) (ad_cons (dv 3) (ad_cons (pd_bin .fdiv (dv 4) pd_int) ad_nil))))))) (bd_cons (sd_ite (tdp (td_and (td_cmp .isnot hc (dv 12) pd_non (nomark _)) (tand1 (td_cmp .isnot hc (dv 10) pd_non (nomark _))))) (bd_cons (sd_ret (pd_tup (vd_cons pd_str (vd_cons (pd_tup (vd_cons pd_str (vd_cons (dv 11) (vd_cons (dv 10) vd_nil)))) (vd_cons (dv 12) vd_nil))))) bd_nil) bd_nil) bd_nil)))) bd_nil) (bd_cons (sd_ite (td_cmp .eq hc (dv 5) (pd_lst vd_nil) (nomark _)) (bd_cons (sd_ret pd_non) bd_nil) bd_nil) (bd_cons (sd_setLc (own := [("one", 18)]) rfl (by decide) rfl sc7.nd (by rfl) (by rfl) (by rfl) (blkOk_by (by rfl)) (id_ex (dv 5)) (fun _ _ _ _ _ => (dn 18 sc7.nd)) (fun _ _ _ _ _ => (cd_one (td_cmp .eq hc (pd_idx (dv 18) pd_int (fun _ _ => rfl)) (pd_bltB .min (call_minD rfl) (by rfl) M.z_min bo_min (rd_cons (pd_lc (own := [("two", 19)]) (by decide) rfl sc7.nd (blkOk_by (by rfl)) (id_ex (dv 5)) (fun _ _ _ _ _ => (dn 19 sc7.nd)) (fun _ _ _ _ _ => cd_nil) (fun _ _ _ _ _ => (pd_idx (dv 19) pd_int (fun _ _ => rfl)))) rd_nil)) (nomark _)))) (fun _ _ _ _ _ => (dv 18))) (bd_cons (sd_unpack (pd_call (f := 18) tk C0.c18 hr hgd (by rfl) M.m__law_some M.k18 M.b18 (ad_cons (dv 0) (ad_cons (pd_ite (td_cmp .gt hc (dv 4) pd_int (nomark _)) (dv 5) (dv 13)) ad_nil))) (gd_t rfl (dngs 14 sc7.nd (dngs 15 sc7.nd ngs_nil)) rfl) (by rfl) (by rfl)) (bd_cons (sd_par 16 7 rfl sc7.nd (by rfl) (by rfl) (by decide) (by rfl) (by rfl) (dv 14) (pd_ite (dtr (pd_isi .str (by rfl) M.z_isinstance (dv 14) (by rfl) M.z_str bo_str)) (pd_idx (pd_bltT .dict (call_dictT rfl) (by rfl) M.z_dict bo_dict (rd_cons (dv 1) rd_nil)) (dv 14) (fun _ _ => rfl)) (pd_idx (dv 2) (dv 14) (fun _ _ => rfl))) (by rfl) (by rfl)) (bd_cons (sd_for hpo rfl (id_range1 (by rfl) M.z_range (dv 15)) (dn 17 sc7.nd) (bd_cons (dset 12 sc7.nd (pd_ite (td_cmp .gt hc (dv 4) (pd_neg pd_int) (nomark _)) (pd_call (f := 7) tk C0.c7 hr hgd (by rfl) M.m__law_made M.k7 M.b7 (ad_cons (dv 0) (ad_cons (dv 1) (ad_cons (dv 2) (ad_cons (pd_idx (dv 7) pd_int (fun _ _ => rfl)) (ad_cons (pd_bin .sub (dv 4) pd_int) ad_nil)))))) pd_non)) (bd_cons (sd_ite (td_cmp .is hc (dv 12) pd_non (nomark _)) (bd_cons (sd_ret pd_non) bd_nil) bd_nil) (bd_cons (sd_par 16 7 rfl sc7.nd (by rfl) (by rfl) (by decide) (by rfl) (by rfl) (pd_tup (vd_cons pd_str (vd_cons (dv 16) (vd_cons (dv 12) vd_nil)))) (pd_idx (dv 7) pd_int (fun _ _ => rfl)) (by rfl) (by rfl)) bd_nil)))) (bd_cons (sd_ret (dv 16)) bd_nil))))))))))))
theorem ok8 (M : Top K mg f0 f1 f2 f3 f4 f5 f6 f7 f8 f9 f10 f11 f12 f13 f14 f15 f16 f17 f18 f19 f20 f21 f22 f23 f24 f25 f26 f27 f28 f29 f30 f31 f32 f33 f34 f35 x0 y0 x1 y1 xb f900 f901 xW g0 g1 g2 g3 g4 g5 g6 g7 g8 g9 g10 g11 g12 g13 g14 g15 g16 g17 g18 g19 g20 g21 g22 g23 g24 g25 g26 g27 g28 g29 g30 g31 g32 g33 g34 g35 g900 g901) (C : ∀ j, j ≤ k → AllFn prog w K mg base W j f0 f1 f2 f3 f4 f5 f6 f7 f8 f9 f10 f11 f12 f13 f14 f15 f16 f17 f18 f19 f20 f21 f22 f23 f24 f25 f26 f27 f28 f29 f30 f31 f32 f33 f34 f35 x0 y0 x1 y1 xb f900 f901 xW g0 g1 g2 g3 g4 g5 g6 g7 g8 g9 g10 g11 g12 g13 g14 g15 g16 g17 g18 g19 g20 g21 g22 g23 g24 g25 g26 g27 g28 g29 g30 g31 g32 g33 g34 g35 g900 g901) : FnG prog w K mg base (k + 1) f8 g8 ["hand"] (spF K (CL x0 x1) TL fd8.md (runF W (enK W T k .stuck) fd8)) :=
  fn_den fd8 M.F8 sc8 rfl rfl rfl fun cdv A outer s H E hr hgd tk hcd => by
    have C0 := C k (Nat.le_refl k)
    have hu : (A.deeper (envOfC "_law_deep_thing" (defScope s8) s.heap.objs.size f8 cdv)).units + 100 < cLine := by have := hr.un; omega
    have hk : (A.deeper (envOfC "_law_deep_thing" (defScope s8) s.heap.objs.size f8 cdv)).units + 1 < cLine := by omega
    have hc : (A.deeper (envOfC "_law_deep_thing" (defScope s8) s.heap.objs.size f8 cdv)).units + 65 < cLine := by omega
    have hpo := L2.passes_of (X := bodyCx prog w K mg base ["hand", "found", "spin", "double"] "_law_deep_thing" (defScope s8) f8 cdv A outer s H E) rfl
    exact (bd_cons (dset 1 sc8.nd (pd_call (f := 18) tk C0.c18 hr hgd (by rfl) M.m__law_some M.k18 M.b18 (ad_cons (dv 0) (ad_cons (pd_lst (vd_cons pd_non (vd_cons (pd_tup vd_nil) (vd_cons pd_str (vd_cons (pd_neg pd_int) (vd_cons pd_bl (vd_cons (pd_lst (vd_cons pd_int vd_nil)) (vd_cons pd_dnew vd_nil)))))))) ad_nil)))) (bd_cons (sd_for hpo rfl (id_range1 (by rfl) M.z_range (pd_call (f := 5) tk C0.c5 hr hgd (by rfl) M.m__law_draw M.k5 M.b5 (ad_cons (dv 0) (ad_cons pd_int ad_nil)))) (dn 2 sc8.nd) (bd_cons (dset 3 sc8.nd (pd_ite (td_cmp .lt hc (dv 2) pd_int (nomark _)) (pd_tup (vd_cons pd_str (vd_cons (dv 1) (vd_cons (dv 1) vd_nil)))) (pd_tup (vd_cons pd_str (vd_cons (dv 1) (vd_cons pd_int vd_nil)))))) (bd_cons (dset 1 sc8.nd (pd_call (f := 18) tk C0.c18 hr hgd (by rfl) M.m__law_some M.k18 M.b18 (ad_cons (dv 0) (ad_cons (pd_lst (vd_cons (pd_tup (vd_cons pd_str (vd_cons pd_str (vd_cons (dv 1) vd_nil)))) (vd_cons (dv 3) (vd_cons (pd_lst (vd_cons (dv 1) vd_nil)) vd_nil)))) ad_nil)))) bd_nil))) (bd_cons (sd_ret (dv 1)) bd_nil)))
theorem ok9 (M : Top K mg f0 f1 f2 f3 f4 f5 f6 f7 f8 f9 f10 f11 f12 f13 f14 f15 f16 f17 f18 f19 f20 f21 f22 f23 f24 f25 f26 f27 f28 f29 f30 f31 f32 f33 f34 f35 x0 y0 x1 y1 xb f900 f901 xW g0 g1 g2 g3 g4 g5 g6 g7 g8 g9 g10 g11 g12 g13 g14 g15 g16 g17 g18 g19 g20 g21 g22 g23 g24 g25 g26 g27 g28 g29 g30 g31 g32 g33 g34 g35 g900 g901) (C : ∀ j, j ≤ k → AllFn prog w K mg base W j f0 f1 f2 f3 f4 f5 f6 f7 f8 f9 f10 f11 f12 f13 f14 f15 f16 f17 f18 f19 f20 f21 f22 f23 f24 f25 f26 f27 f28 f29 f30 f31 f32 f33 f34 f35 x0 y0 x1 y1 xb f900 f901 xW g0 g1 g2 g3 g4 g5 g6 g7 g8 g9 g10 g11 g12 g13 g14 g15 g16 g17 g18 g19 g20 g21 g22 g23 g24 g25 g26 g27 g28 g29 g30 g31 g32 g33 g34 g35 g900 g901) : FnG prog w K mg base (k + 1) f9 g9 ["hand", "library", "deep", "thing"] (spF K (CL x0 x1) TL fd9.md (runF W (enK W T k .stuck) fd9)) :=
  fn_den fd9 M.F9 sc9 rfl rfl rfl fun cdv A outer s H E hr hgd tk hcd => by
    have C0 := C k (Nat.le_refl k)
    have hu : (A.deeper (envOfC "_law_spoiled" (defScope s9) s.heap.objs.size f9 cdv)).units + 100 < cLine := by have := hr.un; omega
    have hk : (A.deeper (envOfC "_law_spoiled" (defScope s9) s.heap.objs.size f9 cdv)).units + 1 < cLine := by omega
    have hc : (A.deeper (envOfC "_law_spoiled" (defScope s9) s.heap.objs.size f9 cdv)).units + 65 < cLine := by omega
    have hpo := L2.passes_of (X := bodyCx prog w K mg base ["hand", "library", "deep", "thing", "at", "bent", "some"] "_law_spoiled" (defScope s9) f9 cdv A outer s H E) rfl
    exact (bd_cons (sd_ite (tdp (td_and (dtr (pd_isi .tuple (by rfl) M.z_isinstance (dv 3) (by rfl) M.z_tuple bo_tuple)) (tand1 (td_cmp .gt hc (pd_call (f := 5) tk C0.c5 hr hgd (by rfl) M.m__law_draw M.k5 M.b5 (ad_cons (dv 0) (ad_cons pd_int ad_nil))) pd_int (nomark _))))) (bd_cons (sd_ite (td_cmp .eq hc (pd_idx (dv 3) pd_int (fun _ _ => rfl)) pd_str (nomark _)) (bd_cons (sd_ret (pd_tup (vd_cons pd_str (vd_cons (pd_idx (dv 3) pd_int (fun _ _ => rfl)) (vd_cons (pd_call (f := 9) tk C0.c9 hr hgd (by rfl) M.m__law_spoiled M.k9 M.b9 (ad_cons (dv 0) (ad_cons (dv 1) (ad_cons (pd_bin .add (dv 2) pd_int) (ad_cons (pd_idx (dv 3) pd_int (fun _ _ => rfl)) ad_nil))))) vd_nil))))) bd_nil) bd_nil) (bd_cons (dset 4 sc9.nd (pd_bin .add pd_int (pd_call (f := 5) tk C0.c5 hr hgd (by rfl) M.m__law_draw M.k5 M.b5 (ad_cons (dv 0) (ad_cons pd_int ad_nil))))) (bd_cons (dset 5 sc9.nd (pd_call (f := 9) tk C0.c9 hr hgd (by rfl) M.m__law_spoiled M.k9 M.b9 (ad_cons (dv 0) (ad_cons (dv 1) (ad_cons (dv 2) (ad_cons (pd_idx (dv 3) (dv 4) (fun _ _ => rfl)) ad_nil)))))) (bd_cons (sd_ret (pd_ite (td_cmp .eq hc (dv 4) pd_int (nomark _)) (pd_tup (vd_cons pd_str (vd_cons (dv 5) (vd_cons (pd_idx (dv 3) pd_int (fun _ _ => rfl)) vd_nil)))) (pd_tup (vd_cons pd_str (vd_cons (pd_idx (dv 3) pd_int (fun _ _ => rfl)) (vd_cons (dv 5) vd_nil)))))) bd_nil)))) bd_nil) (bd_cons (dset 6 sc9.nd (pd_lst (vd_cons (dv 2) (vd_cons (pd_neg pd_int) (vd_cons (pd_bin .add (dv 2) pd_int) (vd_cons pd_bl (vd_cons pd_bl (vd_cons pd_non (vd_cons pd_str (vd_cons pd_str (vd_cons pd_str (vd_cons (pd_tup vd_nil) (vd_cons (pd_tup (vd_cons pd_str vd_nil)) (vd_cons (pd_tup (vd_cons pd_str vd_nil)) (vd_cons (pd_lst (vd_cons (dv 3) vd_nil)) (vd_cons pd_dnew (vd_cons (pd_tup (vd_cons (dv 3) vd_nil)) vd_nil))))))))))))))))) (bd_cons (dset 6 sc9.nd (pd_bin .add (dv 6) (pd_lst (vd_cons (pd_tup (vd_cons pd_str (vd_cons pd_str vd_nil))) (vd_cons (pd_tup (vd_cons pd_str (vd_cons pd_str (vd_cons (dv 3) (vd_cons pd_int vd_nil))))) (vd_cons (pd_tup (vd_cons pd_str (vd_cons (dv 3) vd_nil))) (vd_cons (pd_tup (vd_cons pd_str (vd_cons (dv 3) (vd_cons (dv 3) (vd_cons (dv 3) vd_nil))))) vd_nil))))))) (bd_cons (dset 6 sc9.nd (pd_bin .add (dv 6) (pd_lst (vd_cons (pd_tup (vd_cons pd_str (vd_cons pd_str (vd_cons (dv 3) vd_nil)))) (vd_cons (pd_tup (vd_cons pd_str (vd_cons pd_str (vd_cons (dv 3) vd_nil)))) (vd_cons (pd_tup (vd_cons pd_str (vd_cons pd_non (vd_cons (dv 3) vd_nil)))) (vd_cons (pd_tup (vd_cons pd_str (vd_cons (pd_tup (vd_cons pd_str vd_nil)) (vd_cons (dv 3) vd_nil)))) vd_nil))))))) (bd_cons (dset 6 sc9.nd (pd_bin .add (dv 6) (pd_lst (vd_cons (pd_lst (vd_cons pd_str (vd_cons (dv 3) (vd_cons (dv 3) vd_nil)))) (vd_cons (pd_tup (vd_cons pd_int (vd_cons pd_str (vd_cons (dv 3) vd_nil)))) (vd_cons (pd_tup (vd_cons pd_str (vd_cons (pd_call (f := 19) tk C0.c19 hr hgd (by rfl) M.m__law_wild M.k19 M.b19 (ad_cons (dv 0) ad_nil)) (vd_cons (dv 3) vd_nil)))) (vd_cons (pd_tup (vd_cons pd_str (vd_cons pd_str (vd_cons (pd_bin .add (dv 2) pd_int) vd_nil)))) vd_nil))))))) (bd_cons (dset 6 sc9.nd (pd_bin .add (dv 6) (pd_lst (vd_cons (pd_tup (vd_cons pd_str (vd_cons (pd_tup (vd_cons pd_str (vd_cons (dv 3) (vd_cons pd_non vd_nil)))) (vd_cons (dv 3) vd_nil)))) (vd_cons (pd_bin .pow pd_int pd_int) (vd_cons (pd_tup (vd_cons pd_str (vd_cons (pd_lst (vd_cons pd_str (vd_cons pd_str vd_nil))) (vd_cons (dv 3) vd_nil)))) (vd_cons (pd_tup (vd_cons pd_str (vd_cons (dv 3) (vd_cons (dv 2) vd_nil)))) vd_nil))))))) (bd_cons (sd_ret (pd_call (f := 18) tk C0.c18 hr hgd (by rfl) M.m__law_some M.k18 M.b18 (ad_cons (dv 0) (ad_cons (pd_bin .add (dv 6) (pd_lst (vd_cons (pd_tup (vd_cons pd_non (vd_cons (dv 3) (vd_cons (dv 3) vd_nil)))) (vd_cons pd_str (vd_cons pd_str vd_nil))))) ad_nil)))) bd_nil)))))))
theorem ok10 (M : Top K mg f0 f1 f2 f3 f4 f5 f6 f7 f8 f9 f10 f11 f12 f13 f14 f15 f16 f17 f18 f19 f20 f21 f22 f23 f24 f25 f26 f27 f28 f29 f30 f31 f32 f33 f34 f35 x0 y0 x1 y1 xb f900 f901 xW g0 g1 g2 g3 g4 g5 g6 g7 g8 g9 g10 g11 g12 g13 g14 g15 g16 g17 g18 g19 g20 g21 g22 g23 g24 g25 g26 g27 g28 g29 g30 g31 g32 g33 g34 g35 g900 g901) (C : ∀ j, j ≤ k → AllFn prog w K mg base W j f0 f1 f2 f3 f4 f5 f6 f7 f8 f9 f10 f11 f12 f13 f14 f15 f16 f17 f18 f19 f20 f21 f22 f23 f24 f25 f26 f27 f28 f29 f30 f31 f32 f33 f34 f35 x0 y0 x1 y1 xb f900 f901 xW g0 g1 g2 g3 g4 g5 g6 g7 g8 g9 g10 g11 g12 g13 g14 g15 g16 g17 g18 g19 g20 g21 g22 g23 g24 g25 g26 g27 g28 g29 g30 g31 g32 g33 g34 g35 g900 g901) : FnG prog w K mg base (k + 1) f10 g10 ["wish", "library", "thing"] (spF K (CL x0 x1) TL fd10.md (runF W (enK W T k .stuck) fd10)) :=
  fn_den fd10 M.F10 sc10 rfl rfl rfl fun cdv A outer s H E hr hgd tk hcd => by
    have C0 := C k (Nat.le_refl k)
    have hu : (A.deeper (envOfC "_law_is_judged" (defScope s10) s.heap.objs.size f10 cdv)).units + 100 < cLine := by have := hr.un; omega
    have hk : (A.deeper (envOfC "_law_is_judged" (defScope s10) s.heap.objs.size f10 cdv)).units + 1 < cLine := by omega
    have hc : (A.deeper (envOfC "_law_is_judged" (defScope s10) s.heap.objs.size f10 cdv)).units + 65 < cLine := by omega
    have hpo := L2.passes_of (X := bodyCx prog w K mg base ["wish", "library", "thing", "copy", "due"] "_law_is_judged" (defScope s10) f10 cdv A outer s H E) rfl
    exact (bd_cons (sd_par 3 4 rfl sc10.nd (by rfl) (by rfl) (by decide) (by rfl) (by rfl) (pd_bltB .repr (call_reprD hgd hu) (by rfl) M.z_repr bo_repr (rd_cons (dv 2) rd_nil)) (pd_call (f := 20) tk C0.c20 hr hgd (by rfl) M.m__law_due M.k20 M.b20 (ad_cons (dv 1) (ad_cons (dv 2) ad_nil))) (by rfl) (by rfl)) (bd_cons (sd_ite (tdp (td_or (td_not (dtr (pd_call (f := 21) tk C0.c21 hr hgd (by rfl) M.m__law_is M.k21 M.b21 (ad_cons (pd_call (f := 11) tk C0.c11 hr hgd (by rfl) M.m__law_told M.k11 M.b11 (ad_cons (dv 0) (ad_cons (dv 2) ad_nil))) (ad_cons (dv 4) ad_nil))))) (tor1 (td_cmp .ne hc (pd_bltB .repr (call_reprD hgd hu) (by rfl) M.z_repr bo_repr (rd_cons (dv 2) rd_nil)) (dv 3) (nomark _))))) (bd_cons (sd_ret pd_bl) bd_nil) bd_nil) (bd_cons (sd_ret (pd_call (f := 21) tk C0.c21 hr hgd (by rfl) M.m__law_is M.k21 M.b21 (ad_cons (pd_call (f := 12) tk C0.c12 hr hgd (by rfl) M.m_is_program M.k12 M.b12 (ad_cons (dv 0) (ad_cons (dv 2) ad_nil))) (ad_cons (pd_cmp .eq hc (dv 4) (pd_tup (vd_cons pd_str (vd_cons (pd_attr M.WC.toInsC.nm M.WC.nk (dv 0)) vd_nil))) (nomark _)) ad_nil)))) bd_nil)))
theorem ok11 (M : Top K mg f0 f1 f2 f3 f4 f5 f6 f7 f8 f9 f10 f11 f12 f13 f14 f15 f16 f17 f18 f19 f20 f21 f22 f23 f24 f25 f26 f27 f28 f29 f30 f31 f32 f33 f34 f35 x0 y0 x1 y1 xb f900 f901 xW g0 g1 g2 g3 g4 g5 g6 g7 g8 g9 g10 g11 g12 g13 g14 g15 g16 g17 g18 g19 g20 g21 g22 g23 g24 g25 g26 g27 g28 g29 g30 g31 g32 g33 g34 g35 g900 g901) (C : ∀ j, j ≤ k → AllFn prog w K mg base W j f0 f1 f2 f3 f4 f5 f6 f7 f8 f9 f10 f11 f12 f13 f14 f15 f16 f17 f18 f19 f20 f21 f22 f23 f24 f25 f26 f27 f28 f29 f30 f31 f32 f33 f34 f35 x0 y0 x1 y1 xb f900 f901 xW g0 g1 g2 g3 g4 g5 g6 g7 g8 g9 g10 g11 g12 g13 g14 g15 g16 g17 g18 g19 g20 g21 g22 g23 g24 g25 g26 g27 g28 g29 g30 g31 g32 g33 g34 g35 g900 g901) : FnG prog w K mg base (k + 1) f11 g11 ["wish", "thing"] (spF K (CL x0 x1) TL fd11.md (runF W (enK W T k .stuck) fd11)) :=
  fn_den fd11 M.F11 sc11 rfl rfl rfl fun cdv A outer s H E hr hgd tk hcd => by
    have C0 := C k (Nat.le_refl k)
    have hu : (A.deeper (envOfC "_law_told" (defScope s11) s.heap.objs.size f11 cdv)).units + 100 < cLine := by have := hr.un; omega
    have hk : (A.deeper (envOfC "_law_told" (defScope s11) s.heap.objs.size f11 cdv)).units + 1 < cLine := by omega
    have hc : (A.deeper (envOfC "_law_told" (defScope s11) s.heap.objs.size f11 cdv)).units + 65 < cLine := by omega
    have hpo := L2.passes_of (X := bodyCx prog w K mg base ["wish", "thing", "found", "error"] "_law_told" (defScope s11) f11 cdv A outer s H E) rfl
    have EA : ExcAll K (CL x0 x1) := (List.forall_mem_cons.mpr ⟨M.X0.ec, (List.forall_mem_cons.mpr ⟨M.X1.ec, (fun p hp => by cases hp)⟩)⟩)
    have SV : SubVE K (CL x0 x1) := (List.forall_mem_cons.mpr ⟨M.X0.subB, (List.forall_mem_cons.mpr ⟨M.X1.subB, (fun p hp => by cases hp)⟩)⟩)
    exact (bd_cons (dset 2 sc11.nd (pd_tup (vd_cons pd_str vd_nil))) (bd_cons (sd_tryAs 3 rfl rfl sc11.nd (by rfl) (by rfl) (by rfl) M.mx_KindWishError M.cfb M.sab rfl tk (fun W2 pn xe tk hpo => (bd_cons (dset 2 sc11.nd (pd_tup (vd_cons pd_str (vd_cons (pd_call (f := 22) tk C0.c22 hr hgd (by rfl) M.m_kind_of M.k22 M.b22 (ad_cons (dv 0) (ad_cons (dv 1) ad_nil))) vd_nil)))) bd_nil)) (fun a oe cls d pn hz hf => (bd_cons (dset 2 sc11.nd (pd_ite (tdp (td_and (dtr (pd_isx 3 1 rfl hz hf EA M.X1.cf M.sa1 (by rfl) M.z_isinstance (by rfl) (by first | exact Or.inl rfl | exact Or.inr (Or.inl rfl) | exact Or.inr (Or.inr rfl)) (by rfl) M.mx_NoProgram)) (tand1 (dtr (pd_isVE 3 rfl hz hf EA SV (by rfl) M.z_isinstance (by rfl) (by first | exact Or.inl rfl | exact Or.inr (Or.inl rfl) | exact Or.inr (Or.inr rfl)) (by rfl) M.z_ValueError))))) (pd_tup (vd_cons pd_str vd_nil)) (pd_tup (vd_cons pd_str vd_nil)))) bd_nil))) (bd_cons (sd_ret (dv 2)) bd_nil)))
theorem ok12 (M : Top K mg f0 f1 f2 f3 f4 f5 f6 f7 f8 f9 f10 f11 f12 f13 f14 f15 f16 f17 f18 f19 f20 f21 f22 f23 f24 f25 f26 f27 f28 f29 f30 f31 f32 f33 f34 f35 x0 y0 x1 y1 xb f900 f901 xW g0 g1 g2 g3 g4 g5 g6 g7 g8 g9 g10 g11 g12 g13 g14 g15 g16 g17 g18 g19 g20 g21 g22 g23 g24 g25 g26 g27 g28 g29 g30 g31 g32 g33 g34 g35 g900 g901) (C : ∀ j, j ≤ k → AllFn prog w K mg base W j f0 f1 f2 f3 f4 f5 f6 f7 f8 f9 f10 f11 f12 f13 f14 f15 f16 f17 f18 f19 f20 f21 f22 f23 f24 f25 f26 f27 f28 f29 f30 f31 f32 f33 f34 f35 x0 y0 x1 y1 xb f900 f901 xW g0 g1 g2 g3 g4 g5 g6 g7 g8 g9 g10 g11 g12 g13 g14 g15 g16 g17 g18 g19 g20 g21 g22 g23 g24 g25 g26 g27 g28 g29 g30 g31 g32 g33 g34 g35 g900 g901) : FnG prog w K mg base (k + 1) f12 g12 ["wish", "thing"] (spF K (CL x0 x1) TL fd12.md (runF W (enK W T k .stuck) fd12)) :=
  fn_den fd12 M.F12 sc12 rfl rfl rfl fun cdv A outer s H E hr hgd tk hcd => by
    have C0 := C k (Nat.le_refl k)
    have hu : (A.deeper (envOfC "is_program" (defScope s12) s.heap.objs.size f12 cdv)).units + 100 < cLine := by have := hr.un; omega
    have hk : (A.deeper (envOfC "is_program" (defScope s12) s.heap.objs.size f12 cdv)).units + 1 < cLine := by omega
    have hc : (A.deeper (envOfC "is_program" (defScope s12) s.heap.objs.size f12 cdv)).units + 65 < cLine := by omega
    have hpo := L2.passes_of (X := bodyCx prog w K mg base ["wish", "thing"] "is_program" (defScope s12) f12 cdv A outer s H E) rfl
    exact (bd_cons (sd_ret (pd_and (pd_call (f := 23) tk C0.c23 hr hgd (by rfl) M.m_has_form M.k23 M.b23 (ad_cons (pd_attr M.WC.toInsC.nm M.WC.nd (dv 0)) (ad_cons (dv 1) (ad_cons pd_int ad_nil)))) (pd_one (pd_cmp .eq hc (pd_call (f := 24) tk C0.c24 hr hgd (by rfl) M.m_kind_in M.k24 M.b24 (ad_cons (pd_attr M.WC.toInsC.nm M.WC.nd (dv 0)) (ad_cons (dv 1) (ad_cons (pd_tup vd_nil) ad_nil)))) (pd_attr M.WC.toInsC.nm M.WC.nk (dv 0)) (nomark _))))) bd_nil)
theorem ok13 (M : Top K mg f0 f1 f2 f3 f4 f5 f6 f7 f8 f9 f10 f11 f12 f13 f14 f15 f16 f17 f18 f19 f20 f21 f22 f23 f24 f25 f26 f27 f28 f29 f30 f31 f32 f33 f34 f35 x0 y0 x1 y1 xb f900 f901 xW g0 g1 g2 g3 g4 g5 g6 g7 g8 g9 g10 g11 g12 g13 g14 g15 g16 g17 g18 g19 g20 g21 g22 g23 g24 g25 g26 g27 g28 g29 g30 g31 g32 g33 g34 g35 g900 g901) (C : ∀ j, j ≤ k → AllFn prog w K mg base W j f0 f1 f2 f3 f4 f5 f6 f7 f8 f9 f10 f11 f12 f13 f14 f15 f16 f17 f18 f19 f20 f21 f22 f23 f24 f25 f26 f27 f28 f29 f30 f31 f32 f33 f34 f35 x0 y0 x1 y1 xb f900 f901 xW g0 g1 g2 g3 g4 g5 g6 g7 g8 g9 g10 g11 g12 g13 g14 g15 g16 g17 g18 g19 g20 g21 g22 g23 g24 g25 g26 g27 g28 g29 g30 g31 g32 g33 g34 g35 g900 g901) : FnG prog w K mg base (k + 1) f13 g13 ["hand"] (spF K (CL x0 x1) TL fd13.md (runF W (enK W T k .stuck) fd13)) :=
  fn_den fd13 M.F13 sc13 rfl rfl rfl fun cdv A outer s H E hr hgd tk hcd => by
    have C0 := C k (Nat.le_refl k)
    have hu : (A.deeper (envOfC "_law_atom" (defScope s13) s.heap.objs.size f13 cdv)).units + 100 < cLine := by have := hr.un; omega
    have hk : (A.deeper (envOfC "_law_atom" (defScope s13) s.heap.objs.size f13 cdv)).units + 1 < cLine := by omega
    have hc : (A.deeper (envOfC "_law_atom" (defScope s13) s.heap.objs.size f13 cdv)).units + 65 < cLine := by omega
    have hpo := L2.passes_of (X := bodyCx prog w K mg base ["hand"] "_law_atom" (defScope s13) f13 cdv A outer s H E) rfl
    exact (bd_cons (sd_ret (pd_call (f := 18) tk C0.c18 hr hgd (by rfl) M.m__law_some M.k18 M.b18 (ad_cons (dv 0) (ad_cons (pd_lst (vd_cons pd_str (vd_cons pd_str (vd_cons pd_str (vd_cons pd_str (vd_cons pd_str (vd_cons pd_str (vd_cons pd_str vd_nil)))))))) ad_nil)))) bd_nil)
theorem ok14 (M : Top K mg f0 f1 f2 f3 f4 f5 f6 f7 f8 f9 f10 f11 f12 f13 f14 f15 f16 f17 f18 f19 f20 f21 f22 f23 f24 f25 f26 f27 f28 f29 f30 f31 f32 f33 f34 f35 x0 y0 x1 y1 xb f900 f901 xW g0 g1 g2 g3 g4 g5 g6 g7 g8 g9 g10 g11 g12 g13 g14 g15 g16 g17 g18 g19 g20 g21 g22 g23 g24 g25 g26 g27 g28 g29 g30 g31 g32 g33 g34 g35 g900 g901) (C : ∀ j, j ≤ k → AllFn prog w K mg base W j f0 f1 f2 f3 f4 f5 f6 f7 f8 f9 f10 f11 f12 f13 f14 f15 f16 f17 f18 f19 f20 f21 f22 f23 f24 f25 f26 f27 f28 f29 f30 f31 f32 f33 f34 f35 x0 y0 x1 y1 xb f900 f901 xW g0 g1 g2 g3 g4 g5 g6 g7 g8 g9 g10 g11 g12 g13 g14 g15 g16 g17 g18 g19 g20 g21 g22 g23 g24 g25 g26 g27 g28 g29 g30 g31 g32 g33 g34 g35 g900 g901) : FnG prog w K mg base (k + 1) f14 g14 ["thing", "least", "most"] (spF K (CL x0 x1) TL fd14.md (runF W (enK W T k .stuck) fd14)) :=
  fn_den fd14 M.F14 sc14 rfl rfl rfl fun cdv A outer s H E hr hgd tk hcd => by
    have C0 := C k (Nat.le_refl k)
    have hu : (A.deeper (envOfC "is_tuple" (defScope s14) s.heap.objs.size f14 cdv)).units + 100 < cLine := by have := hr.un; omega
    have hk : (A.deeper (envOfC "is_tuple" (defScope s14) s.heap.objs.size f14 cdv)).units + 1 < cLine := by omega
    have hc : (A.deeper (envOfC "is_tuple" (defScope s14) s.heap.objs.size f14 cdv)).units + 65 < cLine := by omega
    have hpo := L2.passes_of (X := bodyCx prog w K mg base ["thing", "least", "most"] "is_tuple" (defScope s14) f14 cdv A outer s H E) rfl
    exact (bd_cons (sd_ret (pd_and (pd_isi .tuple (by rfl) M.z_isinstance (dv 0) (by rfl) M.z_tuple bo_tuple) (pd_one (pd_chain .le .le hc (dv 1) (pd_bltB .len call_lenD (by rfl) M.z_len bo_len (rd_cons (dv 0) rd_nil)) (dv 2) (by rfl))))) bd_nil)
theorem ok15 (M : Top K mg f0 f1 f2 f3 f4 f5 f6 f7 f8 f9 f10 f11 f12 f13 f14 f15 f16 f17 f18 f19 f20 f21 f22 f23 f24 f25 f26 f27 f28 f29 f30 f31 f32 f33 f34 f35 x0 y0 x1 y1 xb f900 f901 xW g0 g1 g2 g3 g4 g5 g6 g7 g8 g9 g10 g11 g12 g13 g14 g15 g16 g17 g18 g19 g20 g21 g22 g23 g24 g25 g26 g27 g28 g29 g30 g31 g32 g33 g34 g35 g900 g901) (C : ∀ j, j ≤ k → AllFn prog w K mg base W j f0 f1 f2 f3 f4 f5 f6 f7 f8 f9 f10 f11 f12 f13 f14 f15 f16 f17 f18 f19 f20 f21 f22 f23 f24 f25 f26 f27 f28 f29 f30 f31 f32 f33 f34 f35 x0 y0 x1 y1 xb f900 f901 xW g0 g1 g2 g3 g4 g5 g6 g7 g8 g9 g10 g11 g12 g13 g14 g15 g16 g17 g18 g19 g20 g21 g22 g23 g24 g25 g26 g27 g28 g29 g30 g31 g32 g33 g34 g35 g900 g901) : FnG prog w K mg base (k + 1) f15 g15 ["thing"] (spF K (CL x0 x1) TL fd15.md (runF W (enK W T k .stuck) fd15)) :=
  fn_den fd15 M.F15 sc15 rfl rfl rfl fun cdv A outer s H E hr hgd tk hcd => by
    have C0 := C k (Nat.le_refl k)
    have hu : (A.deeper (envOfC "is_name" (defScope s15) s.heap.objs.size f15 cdv)).units + 100 < cLine := by have := hr.un; omega
    have hk : (A.deeper (envOfC "is_name" (defScope s15) s.heap.objs.size f15 cdv)).units + 1 < cLine := by omega
    have hc : (A.deeper (envOfC "is_name" (defScope s15) s.heap.objs.size f15 cdv)).units + 65 < cLine := by omega
    have hpo := L2.passes_of (X := bodyCx prog w K mg base ["thing", "sign"] "is_name" (defScope s15) f15 cdv A outer s H E) rfl
    exact (bd_cons (sd_ret (pd_and (pd_isi .str (by rfl) M.z_isinstance (dv 0) (by rfl) M.z_str bo_str) (pd_and (pd_chain .le .le hc pd_int (pd_bltB .len call_lenD (by rfl) M.z_len bo_len (rd_cons (dv 0) rd_nil)) (dgi M.c_MOST_LETTERS) (by rfl)) (pd_one (pd_bltB .all (call_allD rfl) (by rfl) M.z_all bo_all (rd_cons (pd_lc (own := [("sign", 1)]) (by decide) rfl sc15.nd (blkOk_by (by rfl)) (id_ex (dv 0)) (fun _ _ _ _ _ => (dn 1 sc15.nd)) (fun _ _ _ _ _ => cd_nil) (fun _ _ _ _ _ => (pd_cmp .isin hc (dv 1) (dgs M.c_LETTERS) (by rfl)))) rd_nil)))))) bd_nil)
theorem ok16 (M : Top K mg f0 f1 f2 f3 f4 f5 f6 f7 f8 f9 f10 f11 f12 f13 f14 f15 f16 f17 f18 f19 f20 f21 f22 f23 f24 f25 f26 f27 f28 f29 f30 f31 f32 f33 f34 f35 x0 y0 x1 y1 xb f900 f901 xW g0 g1 g2 g3 g4 g5 g6 g7 g8 g9 g10 g11 g12 g13 g14 g15 g16 g17 g18 g19 g20 g21 g22 g23 g24 g25 g26 g27 g28 g29 g30 g31 g32 g33 g34 g35 g900 g901) (C : ∀ j, j ≤ k → AllFn prog w K mg base W j f0 f1 f2 f3 f4 f5 f6 f7 f8 f9 f10 f11 f12 f13 f14 f15 f16 f17 f18 f19 f20 f21 f22 f23 f24 f25 f26 f27 f28 f29 f30 f31 f32 f33 f34 f35 x0 y0 x1 y1 xb f900 f901 xW g0 g1 g2 g3 g4 g5 g6 g7 g8 g9 g10 g11 g12 g13 g14 g15 g16 g17 g18 g19 g20 g21 g22 g23 g24 g25 g26 g27 g28 g29 g30 g31 g32 g33 g34 g35 g900 g901) : FnG prog w K mg base (k + 1) f16 g16 ["thing"] (spF K (CL x0 x1) TL fd16.md (runF W (enK W T k .stuck) fd16)) :=
  fn_den fd16 M.F16 sc16 rfl rfl rfl fun cdv A outer s H E hr hgd tk hcd => by
    have C0 := C k (Nat.le_refl k)
    have hu : (A.deeper (envOfC "is_kind" (defScope s16) s.heap.objs.size f16 cdv)).units + 100 < cLine := by have := hr.un; omega
    have hk : (A.deeper (envOfC "is_kind" (defScope s16) s.heap.objs.size f16 cdv)).units + 1 < cLine := by omega
    have hc : (A.deeper (envOfC "is_kind" (defScope s16) s.heap.objs.size f16 cdv)).units + 65 < cLine := by omega
    have hpo := L2.passes_of (X := bodyCx prog w K mg base ["thing"] "is_kind" (defScope s16) f16 cdv A outer s H E) rfl
    exact (bd_cons (sd_ret (pd_chain .le .le hc pd_int (pd_call (f := 25) tk C0.c25 hr hgd (by rfl) M.m_atoms_in M.k25 M.b25 (ad_cons (dv 0) (ad_cons (dgi M.c_MOST_NESTED) ad_nil))) (dgi M.c_MOST_ATOMS) (by rfl))) bd_nil)
theorem ok17 (M : Top K mg f0 f1 f2 f3 f4 f5 f6 f7 f8 f9 f10 f11 f12 f13 f14 f15 f16 f17 f18 f19 f20 f21 f22 f23 f24 f25 f26 f27 f28 f29 f30 f31 f32 f33 f34 f35 x0 y0 x1 y1 xb f900 f901 xW g0 g1 g2 g3 g4 g5 g6 g7 g8 g9 g10 g11 g12 g13 g14 g15 g16 g17 g18 g19 g20 g21 g22 g23 g24 g25 g26 g27 g28 g29 g30 g31 g32 g33 g34 g35 g900 g901) (C : ∀ j, j ≤ k → AllFn prog w K mg base W j f0 f1 f2 f3 f4 f5 f6 f7 f8 f9 f10 f11 f12 f13 f14 f15 f16 f17 f18 f19 f20 f21 f22 f23 f24 f25 f26 f27 f28 f29 f30 f31 f32 f33 f34 f35 x0 y0 x1 y1 xb f900 f901 xW g0 g1 g2 g3 g4 g5 g6 g7 g8 g9 g10 g11 g12 g13 g14 g15 g16 g17 g18 g19 g20 g21 g22 g23 g24 g25 g26 g27 g28 g29 g30 g31 g32 g33 g34 g35 g900 g901) : FnG prog w K mg base (k + 1) f17 g17 ["its", "kind"] (spF K (CL x0 x1) TL fd17.md (runF W (enK W T k .stuck) fd17)) :=
  fn_den fd17 M.F17 sc17 rfl rfl rfl fun cdv A outer s H E hr hgd tk hcd => by
    have C0 := C k (Nat.le_refl k)
    have hu : (A.deeper (envOfC "_law_drops" (defScope s17) s.heap.objs.size f17 cdv)).units + 100 < cLine := by have := hr.un; omega
    have hk : (A.deeper (envOfC "_law_drops" (defScope s17) s.heap.objs.size f17 cdv)).units + 1 < cLine := by omega
    have hc : (A.deeper (envOfC "_law_drops" (defScope s17) s.heap.objs.size f17 cdv)).units + 65 < cLine := by omega
    have hpo := L2.passes_of (X := bodyCx prog w K mg base ["its", "kind", "found", "limit"] "_law_drops" (defScope s17) f17 cdv A outer s H E) rfl
    exact (bd_cons (sd_par 2 3 rfl sc17.nd (by rfl) (by rfl) (by decide) (by rfl) (by rfl) (pd_lst vd_nil) pd_int (by rfl) (by rfl)) (bd_cons (sd_while hpo (td_not (dtr (pd_isi .str (by rfl) M.z_isinstance (dv 0) (by rfl) M.z_str bo_str))) (bd_cons (dset 2 sc17.nd (pd_bin .add (dv 2) (pd_bin .mul (pd_lst (vd_cons (dv 3) vd_nil)) (pd_bltT .int call_intD (by rfl) M.z_int bo_int (rd_cons (pd_cmp .eq hc (dv 0) (dv 1) (nomark _)) rd_nil))))) (bd_cons (sd_par 0 3 rfl sc17.nd (by rfl) (by rfl) (by decide) (by rfl) (by rfl) (pd_idx (dv 0) pd_int (fun _ _ => rfl)) (pd_bin .add (dv 3) pd_int) (by rfl) (by rfl)) bd_nil))) (bd_cons (sd_ret (pd_bin .add (dv 2) (pd_bin .mul (pd_lst (vd_cons (dv 3) vd_nil)) (pd_bltT .int call_intD (by rfl) M.z_int bo_int (rd_cons (pd_cmp .eq hc (dv 0) (dv 1) (nomark _)) rd_nil))))) bd_nil)))
theorem ok18 (M : Top K mg f0 f1 f2 f3 f4 f5 f6 f7 f8 f9 f10 f11 f12 f13 f14 f15 f16 f17 f18 f19 f20 f21 f22 f23 f24 f25 f26 f27 f28 f29 f30 f31 f32 f33 f34 f35 x0 y0 x1 y1 xb f900 f901 xW g0 g1 g2 g3 g4 g5 g6 g7 g8 g9 g10 g11 g12 g13 g14 g15 g16 g17 g18 g19 g20 g21 g22 g23 g24 g25 g26 g27 g28 g29 g30 g31 g32 g33 g34 g35 g900 g901) (C : ∀ j, j ≤ k → AllFn prog w K mg base W j f0 f1 f2 f3 f4 f5 f6 f7 f8 f9 f10 f11 f12 f13 f14 f15 f16 f17 f18 f19 f20 f21 f22 f23 f24 f25 f26 f27 f28 f29 f30 f31 f32 f33 f34 f35 x0 y0 x1 y1 xb f900 f901 xW g0 g1 g2 g3 g4 g5 g6 g7 g8 g9 g10 g11 g12 g13 g14 g15 g16 g17 g18 g19 g20 g21 g22 g23 g24 g25 g26 g27 g28 g29 g30 g31 g32 g33 g34 g35 g900 g901) : FnG prog w K mg base (k + 1) f18 g18 ["hand", "things"] (spF K (CL x0 x1) TL fd18.md (runF W (enK W T k .stuck) fd18)) :=
  fn_den fd18 M.F18 sc18 rfl rfl rfl fun cdv A outer s H E hr hgd tk hcd => by
    have C0 := C k (Nat.le_refl k)
    have hu : (A.deeper (envOfC "_law_some" (defScope s18) s.heap.objs.size f18 cdv)).units + 100 < cLine := by have := hr.un; omega
    have hk : (A.deeper (envOfC "_law_some" (defScope s18) s.heap.objs.size f18 cdv)).units + 1 < cLine := by omega
    have hc : (A.deeper (envOfC "_law_some" (defScope s18) s.heap.objs.size f18 cdv)).units + 65 < cLine := by omega
    have hpo := L2.passes_of (X := bodyCx prog w K mg base ["hand", "things"] "_law_some" (defScope s18) f18 cdv A outer s H E) rfl
    exact (bd_cons (sd_ret (pd_idx (dv 1) (pd_call (f := 5) tk C0.c5 hr hgd (by rfl) M.m__law_draw M.k5 M.b5 (ad_cons (dv 0) (ad_cons (pd_bltB .len call_lenD (by rfl) M.z_len bo_len (rd_cons (dv 1) rd_nil)) ad_nil))) (fun _ _ => rfl))) bd_nil)
theorem ok19 (M : Top K mg f0 f1 f2 f3 f4 f5 f6 f7 f8 f9 f10 f11 f12 f13 f14 f15 f16 f17 f18 f19 f20 f21 f22 f23 f24 f25 f26 f27 f28 f29 f30 f31 f32 f33 f34 f35 x0 y0 x1 y1 xb f900 f901 xW g0 g1 g2 g3 g4 g5 g6 g7 g8 g9 g10 g11 g12 g13 g14 g15 g16 g17 g18 g19 g20 g21 g22 g23 g24 g25 g26 g27 g28 g29 g30 g31 g32 g33 g34 g35 g900 g901) (C : ∀ j, j ≤ k → AllFn prog w K mg base W j f0 f1 f2 f3 f4 f5 f6 f7 f8 f9 f10 f11 f12 f13 f14 f15 f16 f17 f18 f19 f20 f21 f22 f23 f24 f25 f26 f27 f28 f29 f30 f31 f32 f33 f34 f35 x0 y0 x1 y1 xb f900 f901 xW g0 g1 g2 g3 g4 g5 g6 g7 g8 g9 g10 g11 g12 g13 g14 g15 g16 g17 g18 g19 g20 g21 g22 g23 g24 g25 g26 g27 g28 g29 g30 g31 g32 g33 g34 g35 g900 g901) : FnG prog w K mg base (k + 1) f19 g19 ["hand"] (spF K (CL x0 x1) TL fd19.md (runF W (enK W T k .stuck) fd19)) :=
  fn_den fd19 M.F19 sc19 rfl rfl rfl fun cdv A outer s H E hr hgd tk hcd => by
    have C0 := C k (Nat.le_refl k)
    have hu : (A.deeper (envOfC "_law_wild" (defScope s19) s.heap.objs.size f19 cdv)).units + 100 < cLine := by have := hr.un; omega
    have hk : (A.deeper (envOfC "_law_wild" (defScope s19) s.heap.objs.size f19 cdv)).units + 1 < cLine := by omega
    have hc : (A.deeper (envOfC "_law_wild" (defScope s19) s.heap.objs.size f19 cdv)).units + 65 < cLine := by omega
    have hpo := L2.passes_of (X := bodyCx prog w K mg base ["hand", "thing", "spin"] "_law_wild" (defScope s19) f19 cdv A outer s H E) rfl
    exact (bd_cons (dset 1 sc19.nd (pd_call (f := 18) tk C0.c18 hr hgd (by rfl) M.m__law_some M.k18 M.b18 (ad_cons (dv 0) (ad_cons (pd_lst (vd_cons pd_non (vd_cons pd_int (vd_cons (pd_tup vd_nil) (vd_cons pd_str (vd_cons pd_str (vd_cons pd_bl (vd_cons pd_dnew vd_nil)))))))) ad_nil)))) (bd_cons (sd_for hpo rfl (id_range1 (by rfl) M.z_range (pd_call (f := 5) tk C0.c5 hr hgd (by rfl) M.m__law_draw M.k5 M.b5 (ad_cons (dv 0) (ad_cons pd_int ad_nil)))) (dn 2 sc19.nd) (bd_cons (dset 1 sc19.nd (pd_call (f := 18) tk C0.c18 hr hgd (by rfl) M.m__law_some M.k18 M.b18 (ad_cons (dv 0) (ad_cons (pd_lst (vd_cons (pd_tup (vd_cons (dv 1) (vd_cons pd_str vd_nil))) (vd_cons (pd_tup (vd_cons pd_str (vd_cons (dv 1) vd_nil))) (vd_cons (pd_lst (vd_cons (dv 1) vd_nil)) (vd_cons (pd_tup (vd_cons (dv 1) vd_nil)) vd_nil))))) ad_nil)))) bd_nil)) (bd_cons (sd_ret (dv 1)) bd_nil)))
theorem ok20 (M : Top K mg f0 f1 f2 f3 f4 f5 f6 f7 f8 f9 f10 f11 f12 f13 f14 f15 f16 f17 f18 f19 f20 f21 f22 f23 f24 f25 f26 f27 f28 f29 f30 f31 f32 f33 f34 f35 x0 y0 x1 y1 xb f900 f901 xW g0 g1 g2 g3 g4 g5 g6 g7 g8 g9 g10 g11 g12 g13 g14 g15 g16 g17 g18 g19 g20 g21 g22 g23 g24 g25 g26 g27 g28 g29 g30 g31 g32 g33 g34 g35 g900 g901) (C : ∀ j, j ≤ k → AllFn prog w K mg base W j f0 f1 f2 f3 f4 f5 f6 f7 f8 f9 f10 f11 f12 f13 f14 f15 f16 f17 f18 f19 f20 f21 f22 f23 f24 f25 f26 f27 f28 f29 f30 f31 f32 f33 f34 f35 x0 y0 x1 y1 xb f900 f901 xW g0 g1 g2 g3 g4 g5 g6 g7 g8 g9 g10 g11 g12 g13 g14 g15 g16 g17 g18 g19 g20 g21 g22 g23 g24 g25 g26 g27 g28 g29 g30 g31 g32 g33 g34 g35 g900 g901) : FnG prog w K mg base (k + 1) f20 g20 ["library", "thing"] (spF K (CL x0 x1) TL fd20.md (runF W (enK W T k .stuck) fd20)) :=
  fn_den fd20 M.F20 sc20 rfl rfl rfl fun cdv A outer s H E hr hgd tk hcd => by
    have C0 := C k (Nat.le_refl k)
    have hu : (A.deeper (envOfC "_law_due" (defScope s20) s.heap.objs.size f20 cdv)).units + 100 < cLine := by have := hr.un; omega
    have hk : (A.deeper (envOfC "_law_due" (defScope s20) s.heap.objs.size f20 cdv)).units + 1 < cLine := by omega
    have hc : (A.deeper (envOfC "_law_due" (defScope s20) s.heap.objs.size f20 cdv)).units + 65 < cLine := by omega
    have hpo := L2.passes_of (X := bodyCx prog w K mg base ["library", "thing"] "_law_due" (defScope s20) f20 cdv A outer s H E) rfl
    exact (bd_cons (sd_ite (td_not (dtr (pd_call (f := 26) tk C0.c26 hr hgd (by rfl) M.m__law_has_form M.k26 M.b26 (ad_cons (dv 0) (ad_cons pd_int (ad_cons (dv 1) ad_nil)))))) (bd_cons (sd_ret (pd_tup (vd_cons pd_str vd_nil))) bd_nil) bd_nil) (bd_cons (sd_ret (pd_tup (vd_cons pd_str (vd_cons (pd_call (f := 27) tk C0.c27 hr hgd (by rfl) M.m__law_kindd M.k27 M.b27 (ad_cons (dv 0) (ad_cons (pd_lst vd_nil) (ad_cons (dv 1) ad_nil)))) vd_nil)))) bd_nil))
theorem ok21 (M : Top K mg f0 f1 f2 f3 f4 f5 f6 f7 f8 f9 f10 f11 f12 f13 f14 f15 f16 f17 f18 f19 f20 f21 f22 f23 f24 f25 f26 f27 f28 f29 f30 f31 f32 f33 f34 f35 x0 y0 x1 y1 xb f900 f901 xW g0 g1 g2 g3 g4 g5 g6 g7 g8 g9 g10 g11 g12 g13 g14 g15 g16 g17 g18 g19 g20 g21 g22 g23 g24 g25 g26 g27 g28 g29 g30 g31 g32 g33 g34 g35 g900 g901) (C : ∀ j, j ≤ k → AllFn prog w K mg base W j f0 f1 f2 f3 f4 f5 f6 f7 f8 f9 f10 f11 f12 f13 f14 f15 f16 f17 f18 f19 f20 f21 f22 f23 f24 f25 f26 f27 f28 f29 f30 f31 f32 f33 f34 f35 x0 y0 x1 y1 xb f900 f901 xW g0 g1 g2 g3 g4 g5 g6 g7 g8 g9 g10 g11 g12 g13 g14 g15 g16 g17 g18 g19 g20 g21 g22 g23 g24 g25 g26 g27 g28 g29 g30 g31 g32 g33 g34 g35 g900 g901) : FnG prog w K mg base (k + 1) f21 g21 ["told", "due"] (spF K (CL x0 x1) TL fd21.md (runF W (enK W T k .stuck) fd21)) :=
  fn_den fd21 M.F21 sc21 rfl rfl rfl fun cdv A outer s H E hr hgd tk hcd => by
    have C0 := C k (Nat.le_refl k)
    have hu : (A.deeper (envOfC "_law_is" (defScope s21) s.heap.objs.size f21 cdv)).units + 100 < cLine := by have := hr.un; omega
    have hk : (A.deeper (envOfC "_law_is" (defScope s21) s.heap.objs.size f21 cdv)).units + 1 < cLine := by omega
    have hc : (A.deeper (envOfC "_law_is" (defScope s21) s.heap.objs.size f21 cdv)).units + 65 < cLine := by omega
    have hpo := L2.passes_of (X := bodyCx prog w K mg base ["told", "due", "k"] "_law_is" (defScope s21) f21 cdv A outer s H E) rfl
    exact (bd_cons (sd_ite (dtr (pd_isiT [.tuple, .list] (by rfl) M.z_isinstance (dv 1) (tys_cons .tuple (by rfl) M.z_tuple bo_tuple (tys_cons .list (by rfl) M.z_list bo_list tys_nil)))) (bd_cons (sd_ite (tdp (td_or (td_cmp .ne hc (pd_isi .tuple (by rfl) M.z_isinstance (dv 0) (by rfl) M.z_tuple bo_tuple) (pd_isi .tuple (by rfl) M.z_isinstance (dv 1) (by rfl) M.z_tuple bo_tuple) (nomark _)) (tor1 (td_cmp .ne hc (pd_isi .list (by rfl) M.z_isinstance (dv 0) (by rfl) M.z_list bo_list) (pd_isi .list (by rfl) M.z_isinstance (dv 1) (by rfl) M.z_list bo_list) (nomark _))))) (bd_cons (sd_ret pd_bl) bd_nil) bd_nil) (bd_cons (sd_ite (td_cmp .ne hc (pd_bltB .len call_lenD (by rfl) M.z_len bo_len (rd_cons (dv 0) rd_nil)) (pd_bltB .len call_lenD (by rfl) M.z_len bo_len (rd_cons (dv 1) rd_nil)) (nomark _)) (bd_cons (sd_ret pd_bl) bd_nil) bd_nil) (bd_cons (sd_ret (pd_bltB .all (call_allD rfl) (by rfl) M.z_all bo_all (rd_cons (pd_lc (own := [("k", 2)]) (by decide) rfl sc21.nd (blkOk_by (by rfl)) (id_range1 (by rfl) M.z_range (pd_bltB .len call_lenD (by rfl) M.z_len bo_len (rd_cons (dv 1) rd_nil))) (fun _ _ _ _ _ => (dn 2 sc21.nd)) (fun _ _ _ _ _ => cd_nil) (fun _ _ _ _ _ => (pd_call (f := 21) takes0 C0.c21 hr hgd (by rfl) M.m__law_is M.k21 M.b21 (ad_cons (pd_idx (dv 0) (dv 2) (fun _ _ => rfl)) (ad_cons (pd_idx (dv 1) (dv 2) (fun _ _ => rfl)) ad_nil))))) rd_nil))) bd_nil))) bd_nil) (bd_cons (sd_ite (td_cmp .is hc (dv 1) pd_non (nomark _)) (bd_cons (sd_ret (pd_cmp .is hc (dv 0) pd_non (nomark _))) bd_nil) bd_nil) (bd_cons (sd_ite (tdp (td_or (td_cmp .ne hc (pd_isi .bool (by rfl) M.z_isinstance (dv 0) (by rfl) M.z_bool bo_bool) (pd_isi .bool (by rfl) M.z_isinstance (dv 1) (by rfl) M.z_bool bo_bool) (nomark _)) (tor1 (td_cmp .ne hc (pd_isi .int (by rfl) M.z_isinstance (dv 0) (by rfl) M.z_int bo_int) (pd_isi .int (by rfl) M.z_isinstance (dv 1) (by rfl) M.z_int bo_int) (nomark _))))) (bd_cons (sd_ret pd_bl) bd_nil) bd_nil) (bd_cons (sd_ret (pd_and (pd_cmp .eq hc (pd_isi .str (by rfl) M.z_isinstance (dv 0) (by rfl) M.z_str bo_str) (pd_isi .str (by rfl) M.z_isinstance (dv 1) (by rfl) M.z_str bo_str) (nomark _)) (pd_one (pd_cmp .eq hc (dv 0) (dv 1) (nomark _))))) bd_nil))))
theorem ok22 (M : Top K mg f0 f1 f2 f3 f4 f5 f6 f7 f8 f9 f10 f11 f12 f13 f14 f15 f16 f17 f18 f19 f20 f21 f22 f23 f24 f25 f26 f27 f28 f29 f30 f31 f32 f33 f34 f35 x0 y0 x1 y1 xb f900 f901 xW g0 g1 g2 g3 g4 g5 g6 g7 g8 g9 g10 g11 g12 g13 g14 g15 g16 g17 g18 g19 g20 g21 g22 g23 g24 g25 g26 g27 g28 g29 g30 g31 g32 g33 g34 g35 g900 g901) (C : ∀ j, j ≤ k → AllFn prog w K mg base W j f0 f1 f2 f3 f4 f5 f6 f7 f8 f9 f10 f11 f12 f13 f14 f15 f16 f17 f18 f19 f20 f21 f22 f23 f24 f25 f26 f27 f28 f29 f30 f31 f32 f33 f34 f35 x0 y0 x1 y1 xb f900 f901 xW g0 g1 g2 g3 g4 g5 g6 g7 g8 g9 g10 g11 g12 g13 g14 g15 g16 g17 g18 g19 g20 g21 g22 g23 g24 g25 g26 g27 g28 g29 g30 g31 g32 g33 g34 g35 g900 g901) : FnG prog w K mg base (k + 1) f22 g22 ["wish", "program"] (spF K (CL x0 x1) TL fd22.md (runF W (enK W T k .stuck) fd22)) :=
  fn_den fd22 M.F22 sc22 rfl rfl rfl fun cdv A outer s H E hr hgd tk hcd => by
    have C0 := C k (Nat.le_refl k)
    have hu : (A.deeper (envOfC "kind_of" (defScope s22) s.heap.objs.size f22 cdv)).units + 100 < cLine := by have := hr.un; omega
    have hk : (A.deeper (envOfC "kind_of" (defScope s22) s.heap.objs.size f22 cdv)).units + 1 < cLine := by omega
    have hc : (A.deeper (envOfC "kind_of" (defScope s22) s.heap.objs.size f22 cdv)).units + 65 < cLine := by omega
    have hpo := L2.passes_of (X := bodyCx prog w K mg base ["wish", "program"] "kind_of" (defScope s22) f22 cdv A outer s H E) rfl
    exact (bd_cons (sd_expr (pd_call (f := 28) tk C0.c28 hr hgd (by rfl) M.m_check_form M.k28 M.b28 (ad_cons (dv 0) (ad_cons (dv 1) ad_nil))) (by rfl)) (bd_cons (sd_ret (pd_call (f := 24) tk C0.c24 hr hgd (by rfl) M.m_kind_in M.k24 M.b24 (ad_cons (pd_attr M.WC.toInsC.nm M.WC.nd (dv 0)) (ad_cons (dv 1) (ad_cons (pd_tup vd_nil) ad_nil))))) bd_nil))
theorem ok23 (M : Top K mg f0 f1 f2 f3 f4 f5 f6 f7 f8 f9 f10 f11 f12 f13 f14 f15 f16 f17 f18 f19 f20 f21 f22 f23 f24 f25 f26 f27 f28 f29 f30 f31 f32 f33 f34 f35 x0 y0 x1 y1 xb f900 f901 xW g0 g1 g2 g3 g4 g5 g6 g7 g8 g9 g10 g11 g12 g13 g14 g15 g16 g17 g18 g19 g20 g21 g22 g23 g24 g25 g26 g27 g28 g29 g30 g31 g32 g33 g34 g35 g900 g901) (C : ∀ j, j ≤ k → AllFn prog w K mg base W j f0 f1 f2 f3 f4 f5 f6 f7 f8 f9 f10 f11 f12 f13 f14 f15 f16 f17 f18 f19 f20 f21 f22 f23 f24 f25 f26 f27 f28 f29 f30 f31 f32 f33 f34 f35 x0 y0 x1 y1 xb f900 f901 xW g0 g1 g2 g3 g4 g5 g6 g7 g8 g9 g10 g11 g12 g13 g14 g15 g16 g17 g18 g19 g20 g21 g22 g23 g24 g25 g26 g27 g28 g29 g30 g31 g32 g33 g34 g35 g900 g901) : FnG prog w K mg base (k + 1) f23 g23 ["names", "thing", "around"] (spF K (CL x0 x1) TL fd23.md (runF W (enK W T k .stuck) fd23)) :=
  fn_den fd23 M.F23 sc23 rfl rfl rfl fun cdv A outer s H E hr hgd tk hcd => by
    have C0 := C k (Nat.le_refl k)
    have hu : (A.deeper (envOfC "has_form" (defScope s23) s.heap.objs.size f23 cdv)).units + 100 < cLine := by have := hr.un; omega
    have hk : (A.deeper (envOfC "has_form" (defScope s23) s.heap.objs.size f23 cdv)).units + 1 < cLine := by omega
    have hc : (A.deeper (envOfC "has_form" (defScope s23) s.heap.objs.size f23 cdv)).units + 65 < cLine := by omega
    have hpo := L2.passes_of (X := bodyCx prog w K mg base ["names", "thing", "around", "part"] "has_form" (defScope s23) f23 cdv A outer s H E) rfl
    exact (bd_cons (sd_ite (dtr (pd_isi .str (by rfl) M.z_isinstance (dv 1) (by rfl) M.z_str bo_str)) (bd_cons (sd_ret (pd_cmp .isin hc (dv 1) (dv 0) (by rfl))) bd_nil) bd_nil) (bd_cons (sd_ite (dtr (pd_call (f := 29) tk C0.c29 hr hgd (by rfl) M.m_is_integer M.k29 M.b29 (ad_cons (dv 1) ad_nil))) (bd_cons (sd_ret (pd_call (f := 30) tk C0.c30 hr hgd (by rfl) M.m_is_within M.k30 M.b30 (ad_cons (dv 1) (ad_cons pd_int (ad_cons (pd_bin .sub (dv 2) pd_int) ad_nil))))) bd_nil) bd_nil) (bd_cons (sd_ite (dtr (pd_call (f := 31) tk C0.c31 hr hgd (by rfl) M.m_is_called M.k31 M.b31 (ad_cons (dv 1) (ad_cons (dgs M.c_FUN) (ad_cons pd_int ad_nil))))) (bd_cons (sd_ret (pd_and (pd_call (f := 16) tk C0.c16 hr hgd (by rfl) M.m_is_kind M.k16 M.b16 (ad_cons (pd_idx (dv 1) pd_int (fun _ _ => rfl)) ad_nil)) (pd_one (pd_call (f := 23) tk C0.c23 hr hgd (by rfl) M.m_has_form M.k23 M.b23 (ad_cons (dv 0) (ad_cons (pd_idx (dv 1) pd_int (fun _ _ => rfl)) (ad_cons (pd_bin .add (dv 2) pd_int) ad_nil))))))) bd_nil) bd_nil) (bd_cons (sd_ret (pd_and (pd_call (f := 31) tk C0.c31 hr hgd (by rfl) M.m_is_called M.k31 M.b31 (ad_cons (dv 1) (ad_cons (dgs M.c_USE) (ad_cons pd_int ad_nil)))) (pd_one (pd_bltB .all (call_allD rfl) (by rfl) M.z_all bo_all (rd_cons (pd_lc (own := [("part", 3)]) (by decide) rfl sc23.nd (blkOk_by (by rfl)) (id_ex (pd_sl (dv 1) (pp_some pd_int) pp_none)) (fun _ _ _ _ _ => (dn 3 sc23.nd)) (fun _ _ _ _ _ => cd_nil) (fun _ _ _ _ _ => (pd_call (f := 23) takes0 C0.c23 hr hgd (by rfl) M.m_has_form M.k23 M.b23 (ad_cons (dv 0) (ad_cons (dv 3) (ad_cons (dv 2) ad_nil)))))) rd_nil))))) bd_nil))))
theorem ok24 (M : Top K mg f0 f1 f2 f3 f4 f5 f6 f7 f8 f9 f10 f11 f12 f13 f14 f15 f16 f17 f18 f19 f20 f21 f22 f23 f24 f25 f26 f27 f28 f29 f30 f31 f32 f33 f34 f35 x0 y0 x1 y1 xb f900 f901 xW g0 g1 g2 g3 g4 g5 g6 g7 g8 g9 g10 g11 g12 g13 g14 g15 g16 g17 g18 g19 g20 g21 g22 g23 g24 g25 g26 g27 g28 g29 g30 g31 g32 g33 g34 g35 g900 g901) (C : ∀ j, j ≤ k → AllFn prog w K mg base W j f0 f1 f2 f3 f4 f5 f6 f7 f8 f9 f10 f11 f12 f13 f14 f15 f16 f17 f18 f19 f20 f21 f22 f23 f24 f25 f26 f27 f28 f29 f30 f31 f32 f33 f34 f35 x0 y0 x1 y1 xb f900 f901 xW g0 g1 g2 g3 g4 g5 g6 g7 g8 g9 g10 g11 g12 g13 g14 g15 g16 g17 g18 g19 g20 g21 g22 g23 g24 g25 g26 g27 g28 g29 g30 g31 g32 g33 g34 g35 g900 g901) : FnG prog w K mg base (k + 1) f24 g24 ["names", "program", "around"] (spF K (CL x0 x1) TL fd24.md (runF W (enK W T k .stuck) fd24)) :=
  fn_den fd24 M.F24 sc24 rfl rfl rfl fun cdv A outer s H E hr hgd tk hcd => by
    have C0 := C k (Nat.le_refl k)
    have hu : (A.deeper (envOfC "kind_in" (defScope s24) s.heap.objs.size f24 cdv)).units + 100 < cLine := by have := hr.un; omega
    have hk : (A.deeper (envOfC "kind_in" (defScope s24) s.heap.objs.size f24 cdv)).units + 1 < cLine := by omega
    have hc : (A.deeper (envOfC "kind_in" (defScope s24) s.heap.objs.size f24 cdv)).units + 65 < cLine := by omega
    have hpo := L2.passes_of (X := bodyCx prog w K mg base ["names", "program", "around", "inner", "one", "other", "part"] "kind_in" (defScope s24) f24 cdv A outer s H E) rfl
    exact (bd_cons (sd_ite (dtr (pd_isi .str (by rfl) M.z_isinstance (dv 1) (by rfl) M.z_str bo_str)) (bd_cons (sd_ret (pd_idx (dv 0) (dv 1) (fun _ _ => rfl))) bd_nil) bd_nil) (bd_cons (sd_ite (dtr (pd_call (f := 29) tk C0.c29 hr hgd (by rfl) M.m_is_integer M.k29 M.b29 (ad_cons (dv 1) ad_nil))) (bd_cons (sd_ret (pd_idx (dv 2) (dv 1) (fun _ _ => rfl))) bd_nil) bd_nil) (bd_cons (sd_ite (td_cmp .eq hc (pd_idx (dv 1) pd_int (fun _ _ => rfl)) (dgs M.c_FUN) (nomark _)) (bd_cons (dset 3 sc24.nd (pd_call (f := 24) tk C0.c24 hr hgd (by rfl) M.m_kind_in M.k24 M.b24 (ad_cons (dv 0) (ad_cons (pd_idx (dv 1) pd_int (fun _ _ => rfl)) (ad_cons (pd_bin .add (dv 2) (pd_tup (vd_cons (pd_idx (dv 1) pd_int (fun _ _ => rfl)) vd_nil))) ad_nil))))) (bd_cons (sd_ret (pd_ite (td_cmp .is hc (dv 3) pd_non (nomark _)) pd_non (pd_tup (vd_cons (pd_idx (dv 1) pd_int (fun _ _ => rfl)) (vd_cons (dv 3) vd_nil))))) bd_nil)) bd_nil) (bd_cons (sd_unpack (pd_lc (own := [("part", 6)]) (by decide) rfl sc24.nd (blkOk_by (by rfl)) (id_ex (pd_sl (dv 1) (pp_some pd_int) pp_none)) (fun _ _ _ _ _ => (dn 6 sc24.nd)) (fun _ _ _ _ _ => cd_nil) (fun _ _ _ _ _ => (pd_call (f := 24) takes0 C0.c24 hr hgd (by rfl) M.m_kind_in M.k24 M.b24 (ad_cons (dv 0) (ad_cons (dv 6) (ad_cons (dv 2) ad_nil)))))) (gd_t rfl (dngs 4 sc24.nd (dngs 5 sc24.nd ngs_nil)) rfl) (by rfl) (by rfl)) (bd_cons (sd_ite (tdp (td_or (td_cmp .is hc (dv 4) pd_non (nomark _)) (td_or (td_cmp .is hc (dv 5) pd_non (nomark _)) (td_or (dtr (pd_call (f := 32) tk C0.c32 hr hgd (by rfl) M.m_is_atom M.k32 M.b32 (ad_cons (dv 4) ad_nil))) (tor1 (td_cmp .ne hc (pd_idx (dv 4) pd_int (fun _ _ => rfl)) (dv 5) (nomark _))))))) (bd_cons (sd_ret pd_non) bd_nil) bd_nil) (bd_cons (sd_ret (pd_idx (dv 4) pd_int (fun _ _ => rfl))) bd_nil))))))
theorem ok25 (M : Top K mg f0 f1 f2 f3 f4 f5 f6 f7 f8 f9 f10 f11 f12 f13 f14 f15 f16 f17 f18 f19 f20 f21 f22 f23 f24 f25 f26 f27 f28 f29 f30 f31 f32 f33 f34 f35 x0 y0 x1 y1 xb f900 f901 xW g0 g1 g2 g3 g4 g5 g6 g7 g8 g9 g10 g11 g12 g13 g14 g15 g16 g17 g18 g19 g20 g21 g22 g23 g24 g25 g26 g27 g28 g29 g30 g31 g32 g33 g34 g35 g900 g901) (C : ∀ j, j ≤ k → AllFn prog w K mg base W j f0 f1 f2 f3 f4 f5 f6 f7 f8 f9 f10 f11 f12 f13 f14 f15 f16 f17 f18 f19 f20 f21 f22 f23 f24 f25 f26 f27 f28 f29 f30 f31 f32 f33 f34 f35 x0 y0 x1 y1 xb f900 f901 xW g0 g1 g2 g3 g4 g5 g6 g7 g8 g9 g10 g11 g12 g13 g14 g15 g16 g17 g18 g19 g20 g21 g22 g23 g24 g25 g26 g27 g28 g29 g30 g31 g32 g33 g34 g35 g900 g901) : FnG prog w K mg base (k + 1) f25 g25 ["thing", "nested"] (spF K (CL x0 x1) TL fd25.md (runF W (enK W T k .stuck) fd25)) :=
  fn_den fd25 M.F25 sc25 rfl rfl rfl fun cdv A outer s H E hr hgd tk hcd => by
    have C0 := C k (Nat.le_refl k)
    have hu : (A.deeper (envOfC "atoms_in" (defScope s25) s.heap.objs.size f25 cdv)).units + 100 < cLine := by have := hr.un; omega
    have hk : (A.deeper (envOfC "atoms_in" (defScope s25) s.heap.objs.size f25 cdv)).units + 1 < cLine := by omega
    have hc : (A.deeper (envOfC "atoms_in" (defScope s25) s.heap.objs.size f25 cdv)).units + 65 < cLine := by omega
    have hpo := L2.passes_of (X := bodyCx prog w K mg base ["thing", "nested", "one", "other", "item"] "atoms_in" (defScope s25) f25 cdv A outer s H E) rfl
    exact (bd_cons (sd_ite (dtr (pd_call (f := 15) tk C0.c15 hr hgd (by rfl) M.m_is_name M.k15 M.b15 (ad_cons (dv 0) ad_nil))) (bd_cons (sd_ret pd_int) bd_nil) bd_nil) (bd_cons (sd_ite (tdp (td_or (td_cmp .eq hc (dv 1) pd_int (nomark _)) (tor1 (td_not (dtr (pd_call (f := 14) tk C0.c14 hr hgd (by rfl) M.m_is_tuple M.k14 M.b14 (ad_cons (dv 0) (ad_cons pd_int (ad_cons pd_int ad_nil))))))))) (bd_cons (sd_ret (pd_neg pd_int)) bd_nil) bd_nil) (bd_cons (sd_unpack (pd_lc (own := [("item", 4)]) (by decide) rfl sc25.nd (blkOk_by (by rfl)) (id_ex (dv 0)) (fun _ _ _ _ _ => (dn 4 sc25.nd)) (fun _ _ _ _ _ => cd_nil) (fun _ _ _ _ _ => (pd_call (f := 25) takes0 C0.c25 hr hgd (by rfl) M.m_atoms_in M.k25 M.b25 (ad_cons (dv 4) (ad_cons (pd_bin .sub (dv 1) pd_int) ad_nil))))) (gd_t rfl (dngs 2 sc25.nd (dngs 3 sc25.nd ngs_nil)) rfl) (by rfl) (by rfl)) (bd_cons (sd_ret (pd_ite (tdp (td_or (td_cmp .lt hc (dv 2) pd_int (nomark _)) (tor1 (td_cmp .lt hc (dv 3) pd_int (nomark _))))) (pd_neg pd_int) (pd_bin .add (dv 2) (dv 3)))) bd_nil))))
theorem ok26 (M : Top K mg f0 f1 f2 f3 f4 f5 f6 f7 f8 f9 f10 f11 f12 f13 f14 f15 f16 f17 f18 f19 f20 f21 f22 f23 f24 f25 f26 f27 f28 f29 f30 f31 f32 f33 f34 f35 x0 y0 x1 y1 xb f900 f901 xW g0 g1 g2 g3 g4 g5 g6 g7 g8 g9 g10 g11 g12 g13 g14 g15 g16 g17 g18 g19 g20 g21 g22 g23 g24 g25 g26 g27 g28 g29 g30 g31 g32 g33 g34 g35 g900 g901) (C : ∀ j, j ≤ k → AllFn prog w K mg base W j f0 f1 f2 f3 f4 f5 f6 f7 f8 f9 f10 f11 f12 f13 f14 f15 f16 f17 f18 f19 f20 f21 f22 f23 f24 f25 f26 f27 f28 f29 f30 f31 f32 f33 f34 f35 x0 y0 x1 y1 xb f900 f901 xW g0 g1 g2 g3 g4 g5 g6 g7 g8 g9 g10 g11 g12 g13 g14 g15 g16 g17 g18 g19 g20 g21 g22 g23 g24 g25 g26 g27 g28 g29 g30 g31 g32 g33 g34 g35 g900 g901) : FnG prog w K mg base (k + 1) f26 g26 ["library", "deep", "thing"] (spF K (CL x0 x1) TL fd26.md (runF W (enK W T k .stuck) fd26)) :=
  fn_den fd26 M.F26 sc26 rfl rfl rfl fun cdv A outer s H E hr hgd tk hcd => by
    have C0 := C k (Nat.le_refl k)
    have hu : (A.deeper (envOfC "_law_has_form" (defScope s26) s.heap.objs.size f26 cdv)).units + 100 < cLine := by have := hr.un; omega
    have hk : (A.deeper (envOfC "_law_has_form" (defScope s26) s.heap.objs.size f26 cdv)).units + 1 < cLine := by omega
    have hc : (A.deeper (envOfC "_law_has_form" (defScope s26) s.heap.objs.size f26 cdv)).units + 65 < cLine := by omega
    have hpo := L2.passes_of (X := bodyCx prog w K mg base ["library", "deep", "thing"] "_law_has_form" (defScope s26) f26 cdv A outer s H E) rfl
    exact (bd_cons (sd_ite (dtr (pd_isi .str (by rfl) M.z_isinstance (dv 2) (by rfl) M.z_str bo_str)) (bd_cons (sd_ret (pd_cmp .isin hc (dv 2) (pd_bltT .dict (call_dictT rfl) (by rfl) M.z_dict bo_dict (rd_cons (dv 0) rd_nil)) (by rfl))) bd_nil) bd_nil) (bd_cons (sd_ite (dtr (pd_isi .int (by rfl) M.z_isinstance (dv 2) (by rfl) M.z_int bo_int)) (bd_cons (sd_ret (pd_and (pd_not (pd_isi .bool (by rfl) M.z_isinstance (dv 2) (by rfl) M.z_bool bo_bool)) (pd_one (pd_chain .le .lt hc pd_int (dv 2) (dv 1) (by rfl))))) bd_nil) bd_nil) (bd_cons (sd_ite (tdp (td_or (td_not (dtr (pd_isi .tuple (by rfl) M.z_isinstance (dv 2) (by rfl) M.z_tuple bo_tuple))) (td_or (td_cmp .ne hc (pd_bltB .len call_lenD (by rfl) M.z_len bo_len (rd_cons (dv 2) rd_nil)) pd_int (nomark _)) (tor1 (td_not (dtr (pd_isi .str (by rfl) M.z_isinstance (pd_idx (dv 2) pd_int (fun _ _ => rfl)) (by rfl) M.z_str bo_str))))))) (bd_cons (sd_ret pd_bl) bd_nil) bd_nil) (bd_cons (sd_ite (td_cmp .eq hc (pd_idx (dv 2) pd_int (fun _ _ => rfl)) pd_str (nomark _)) (bd_cons (sd_ret (pd_and (pd_call (f := 33) tk C0.c33 hr hgd (by rfl) M.m__law_is_kind M.k33 M.b33 (ad_cons (pd_idx (dv 2) pd_int (fun _ _ => rfl)) ad_nil)) (pd_one (pd_call (f := 26) tk C0.c26 hr hgd (by rfl) M.m__law_has_form M.k26 M.b26 (ad_cons (dv 0) (ad_cons (pd_bin .add (dv 1) pd_int) (ad_cons (pd_idx (dv 2) pd_int (fun _ _ => rfl)) ad_nil))))))) bd_nil) bd_nil) (bd_cons (sd_ite (td_cmp .ne hc (pd_idx (dv 2) pd_int (fun _ _ => rfl)) pd_str (nomark _)) (bd_cons (sd_ret pd_bl) bd_nil) bd_nil) (bd_cons (sd_ret (pd_and (pd_call (f := 26) tk C0.c26 hr hgd (by rfl) M.m__law_has_form M.k26 M.b26 (ad_cons (dv 0) (ad_cons (dv 1) (ad_cons (pd_idx (dv 2) pd_int (fun _ _ => rfl)) ad_nil)))) (pd_one (pd_call (f := 26) tk C0.c26 hr hgd (by rfl) M.m__law_has_form M.k26 M.b26 (ad_cons (dv 0) (ad_cons (dv 1) (ad_cons (pd_idx (dv 2) pd_int (fun _ _ => rfl)) ad_nil))))))) bd_nil))))))
theorem ok27 (M : Top K mg f0 f1 f2 f3 f4 f5 f6 f7 f8 f9 f10 f11 f12 f13 f14 f15 f16 f17 f18 f19 f20 f21 f22 f23 f24 f25 f26 f27 f28 f29 f30 f31 f32 f33 f34 f35 x0 y0 x1 y1 xb f900 f901 xW g0 g1 g2 g3 g4 g5 g6 g7 g8 g9 g10 g11 g12 g13 g14 g15 g16 g17 g18 g19 g20 g21 g22 g23 g24 g25 g26 g27 g28 g29 g30 g31 g32 g33 g34 g35 g900 g901) (C : ∀ j, j ≤ k → AllFn prog w K mg base W j f0 f1 f2 f3 f4 f5 f6 f7 f8 f9 f10 f11 f12 f13 f14 f15 f16 f17 f18 f19 f20 f21 f22 f23 f24 f25 f26 f27 f28 f29 f30 f31 f32 f33 f34 f35 x0 y0 x1 y1 xb f900 f901 xW g0 g1 g2 g3 g4 g5 g6 g7 g8 g9 g10 g11 g12 g13 g14 g15 g16 g17 g18 g19 g20 g21 g22 g23 g24 g25 g26 g27 g28 g29 g30 g31 g32 g33 g34 g35 g900 g901) : FnG prog w K mg base (k + 1) f27 g27 ["library", "around", "thing"] (spF K (CL x0 x1) TL fd27.md (runF W (enK W T k .stuck) fd27)) :=
  fn_den fd27 M.F27 sc27 rfl rfl rfl fun cdv A outer s H E hr hgd tk hcd => by
    have C0 := C k (Nat.le_refl k)
    have hu : (A.deeper (envOfC "_law_kindd" (defScope s27) s.heap.objs.size f27 cdv)).units + 100 < cLine := by have := hr.un; omega
    have hk : (A.deeper (envOfC "_law_kindd" (defScope s27) s.heap.objs.size f27 cdv)).units + 1 < cLine := by omega
    have hc : (A.deeper (envOfC "_law_kindd" (defScope s27) s.heap.objs.size f27 cdv)).units + 65 < cLine := by omega
    have hpo := L2.passes_of (X := bodyCx prog w K mg base ["library", "around", "thing", "body", "one", "other"] "_law_kindd" (defScope s27) f27 cdv A outer s H E) rfl
    exact (bd_cons (sd_ite (dtr (pd_isi .str (by rfl) M.z_isinstance (dv 2) (by rfl) M.z_str bo_str)) (bd_cons (sd_ret (pd_idx (pd_bltT .dict (call_dictT rfl) (by rfl) M.z_dict bo_dict (rd_cons (dv 0) rd_nil)) (dv 2) (fun _ _ => rfl))) bd_nil) bd_nil) (bd_cons (sd_ite (dtr (pd_isi .int (by rfl) M.z_isinstance (dv 2) (by rfl) M.z_int bo_int)) (bd_cons (sd_ret (pd_idx (dv 1) (dv 2) (fun _ _ => rfl))) bd_nil) bd_nil) (bd_cons (sd_ite (td_cmp .eq hc (pd_idx (dv 2) pd_int (fun _ _ => rfl)) pd_str (nomark _)) (bd_cons (dset 3 sc27.nd (pd_call (f := 27) tk C0.c27 hr hgd (by rfl) M.m__law_kindd M.k27 M.b27 (ad_cons (dv 0) (ad_cons (pd_bin .add (dv 1) (pd_lst (vd_cons (pd_idx (dv 2) pd_int (fun _ _ => rfl)) vd_nil))) (ad_cons (pd_idx (dv 2) pd_int (fun _ _ => rfl)) ad_nil))))) (bd_cons (sd_ret (pd_ite (td_cmp .is hc (dv 3) pd_non (nomark _)) pd_non (pd_tup (vd_cons (pd_idx (dv 2) pd_int (fun _ _ => rfl)) (vd_cons (dv 3) vd_nil))))) bd_nil)) bd_nil) (bd_cons (sd_par 4 5 rfl sc27.nd (by rfl) (by rfl) (by decide) (by rfl) (by rfl) (pd_call (f := 27) tk C0.c27 hr hgd (by rfl) M.m__law_kindd M.k27 M.b27 (ad_cons (dv 0) (ad_cons (dv 1) (ad_cons (pd_idx (dv 2) pd_int (fun _ _ => rfl)) ad_nil)))) (pd_call (f := 27) tk C0.c27 hr hgd (by rfl) M.m__law_kindd M.k27 M.b27 (ad_cons (dv 0) (ad_cons (dv 1) (ad_cons (pd_idx (dv 2) pd_int (fun _ _ => rfl)) ad_nil)))) (by rfl) (by rfl)) (bd_cons (sd_ite (tdp (td_or (td_cmp .is hc (dv 4) pd_non (nomark _)) (td_or (td_cmp .is hc (dv 5) pd_non (nomark _)) (td_or (dtr (pd_isi .str (by rfl) M.z_isinstance (dv 4) (by rfl) M.z_str bo_str)) (tor1 (td_cmp .ne hc (pd_idx (dv 4) pd_int (fun _ _ => rfl)) (dv 5) (nomark _))))))) (bd_cons (sd_ret pd_non) bd_nil) bd_nil) (bd_cons (sd_ret (pd_idx (dv 4) pd_int (fun _ _ => rfl))) bd_nil))))))
theorem ok28 (M : Top K mg f0 f1 f2 f3 f4 f5 f6 f7 f8 f9 f10 f11 f12 f13 f14 f15 f16 f17 f18 f19 f20 f21 f22 f23 f24 f25 f26 f27 f28 f29 f30 f31 f32 f33 f34 f35 x0 y0 x1 y1 xb f900 f901 xW g0 g1 g2 g3 g4 g5 g6 g7 g8 g9 g10 g11 g12 g13 g14 g15 g16 g17 g18 g19 g20 g21 g22 g23 g24 g25 g26 g27 g28 g29 g30 g31 g32 g33 g34 g35 g900 g901) (C : ∀ j, j ≤ k → AllFn prog w K mg base W j f0 f1 f2 f3 f4 f5 f6 f7 f8 f9 f10 f11 f12 f13 f14 f15 f16 f17 f18 f19 f20 f21 f22 f23 f24 f25 f26 f27 f28 f29 f30 f31 f32 f33 f34 f35 x0 y0 x1 y1 xb f900 f901 xW g0 g1 g2 g3 g4 g5 g6 g7 g8 g9 g10 g11 g12 g13 g14 g15 g16 g17 g18 g19 g20 g21 g22 g23 g24 g25 g26 g27 g28 g29 g30 g31 g32 g33 g34 g35 g900 g901) : FnG prog w K mg base (k + 1) f28 g28 ["wish", "thing"] (spF K (CL x0 x1) TL fd28.md (runF W (enK W T k .stuck) fd28)) :=
  fn_den fd28 M.F28 sc28 rfl rfl rfl fun cdv A outer s H E hr hgd tk hcd => by
    have C0 := C k (Nat.le_refl k)
    have hu : (A.deeper (envOfC "check_form" (defScope s28) s.heap.objs.size f28 cdv)).units + 100 < cLine := by have := hr.un; omega
    have hk : (A.deeper (envOfC "check_form" (defScope s28) s.heap.objs.size f28 cdv)).units + 1 < cLine := by omega
    have hc : (A.deeper (envOfC "check_form" (defScope s28) s.heap.objs.size f28 cdv)).units + 65 < cLine := by omega
    have hpo := L2.passes_of (X := bodyCx prog w K mg base ["wish", "thing"] "check_form" (defScope s28) f28 cdv A outer s H E) rfl
    exact (bd_cons (sd_ite (td_not (dtr (pd_call (f := 23) tk C0.c23 hr hgd (by rfl) M.m_has_form M.k23 M.b23 (ad_cons (pd_attr M.WC.toInsC.nm M.WC.nd (dv 0)) (ad_cons (dv 1) (ad_cons pd_int ad_nil)))))) (bd_cons (sd_raise0 tk rfl rfl M.X1.toXIni rfl hr (by rfl) M.mx_NoProgram) bd_nil) bd_nil) bd_nil)
theorem ok29 (M : Top K mg f0 f1 f2 f3 f4 f5 f6 f7 f8 f9 f10 f11 f12 f13 f14 f15 f16 f17 f18 f19 f20 f21 f22 f23 f24 f25 f26 f27 f28 f29 f30 f31 f32 f33 f34 f35 x0 y0 x1 y1 xb f900 f901 xW g0 g1 g2 g3 g4 g5 g6 g7 g8 g9 g10 g11 g12 g13 g14 g15 g16 g17 g18 g19 g20 g21 g22 g23 g24 g25 g26 g27 g28 g29 g30 g31 g32 g33 g34 g35 g900 g901) (C : ∀ j, j ≤ k → AllFn prog w K mg base W j f0 f1 f2 f3 f4 f5 f6 f7 f8 f9 f10 f11 f12 f13 f14 f15 f16 f17 f18 f19 f20 f21 f22 f23 f24 f25 f26 f27 f28 f29 f30 f31 f32 f33 f34 f35 x0 y0 x1 y1 xb f900 f901 xW g0 g1 g2 g3 g4 g5 g6 g7 g8 g9 g10 g11 g12 g13 g14 g15 g16 g17 g18 g19 g20 g21 g22 g23 g24 g25 g26 g27 g28 g29 g30 g31 g32 g33 g34 g35 g900 g901) : FnG prog w K mg base (k + 1) f29 g29 ["thing"] (spF K (CL x0 x1) TL fd29.md (runF W (enK W T k .stuck) fd29)) :=
  fn_den fd29 M.F29 sc29 rfl rfl rfl fun cdv A outer s H E hr hgd tk hcd => by
    have C0 := C k (Nat.le_refl k)
    have hu : (A.deeper (envOfC "is_integer" (defScope s29) s.heap.objs.size f29 cdv)).units + 100 < cLine := by have := hr.un; omega
    have hk : (A.deeper (envOfC "is_integer" (defScope s29) s.heap.objs.size f29 cdv)).units + 1 < cLine := by omega
    have hc : (A.deeper (envOfC "is_integer" (defScope s29) s.heap.objs.size f29 cdv)).units + 65 < cLine := by omega
    have hpo := L2.passes_of (X := bodyCx prog w K mg base ["thing"] "is_integer" (defScope s29) f29 cdv A outer s H E) rfl
    exact (bd_cons (sd_ret (pd_and (pd_isi .int (by rfl) M.z_isinstance (dv 0) (by rfl) M.z_int bo_int) (pd_one (pd_not (pd_isi .bool (by rfl) M.z_isinstance (dv 0) (by rfl) M.z_bool bo_bool))))) bd_nil)
theorem ok30 (M : Top K mg f0 f1 f2 f3 f4 f5 f6 f7 f8 f9 f10 f11 f12 f13 f14 f15 f16 f17 f18 f19 f20 f21 f22 f23 f24 f25 f26 f27 f28 f29 f30 f31 f32 f33 f34 f35 x0 y0 x1 y1 xb f900 f901 xW g0 g1 g2 g3 g4 g5 g6 g7 g8 g9 g10 g11 g12 g13 g14 g15 g16 g17 g18 g19 g20 g21 g22 g23 g24 g25 g26 g27 g28 g29 g30 g31 g32 g33 g34 g35 g900 g901) (C : ∀ j, j ≤ k → AllFn prog w K mg base W j f0 f1 f2 f3 f4 f5 f6 f7 f8 f9 f10 f11 f12 f13 f14 f15 f16 f17 f18 f19 f20 f21 f22 f23 f24 f25 f26 f27 f28 f29 f30 f31 f32 f33 f34 f35 x0 y0 x1 y1 xb f900 f901 xW g0 g1 g2 g3 g4 g5 g6 g7 g8 g9 g10 g11 g12 g13 g14 g15 g16 g17 g18 g19 g20 g21 g22 g23 g24 g25 g26 g27 g28 g29 g30 g31 g32 g33 g34 g35 g900 g901) : FnG prog w K mg base (k + 1) f30 g30 ["thing", "least", "most"] (spF K (CL x0 x1) TL fd30.md (runF W (enK W T k .stuck) fd30)) :=
  fn_den fd30 M.F30 sc30 rfl rfl rfl fun cdv A outer s H E hr hgd tk hcd => by
    have C0 := C k (Nat.le_refl k)
    have hu : (A.deeper (envOfC "is_within" (defScope s30) s.heap.objs.size f30 cdv)).units + 100 < cLine := by have := hr.un; omega
    have hk : (A.deeper (envOfC "is_within" (defScope s30) s.heap.objs.size f30 cdv)).units + 1 < cLine := by omega
    have hc : (A.deeper (envOfC "is_within" (defScope s30) s.heap.objs.size f30 cdv)).units + 65 < cLine := by omega
    have hpo := L2.passes_of (X := bodyCx prog w K mg base ["thing", "least", "most"] "is_within" (defScope s30) f30 cdv A outer s H E) rfl
    exact (bd_cons (sd_ret (pd_and (pd_call (f := 29) tk C0.c29 hr hgd (by rfl) M.m_is_integer M.k29 M.b29 (ad_cons (dv 0) ad_nil)) (pd_one (pd_chain .le .le hc (dv 1) (dv 0) (dv 2) (by rfl))))) bd_nil)
theorem ok31 (M : Top K mg f0 f1 f2 f3 f4 f5 f6 f7 f8 f9 f10 f11 f12 f13 f14 f15 f16 f17 f18 f19 f20 f21 f22 f23 f24 f25 f26 f27 f28 f29 f30 f31 f32 f33 f34 f35 x0 y0 x1 y1 xb f900 f901 xW g0 g1 g2 g3 g4 g5 g6 g7 g8 g9 g10 g11 g12 g13 g14 g15 g16 g17 g18 g19 g20 g21 g22 g23 g24 g25 g26 g27 g28 g29 g30 g31 g32 g33 g34 g35 g900 g901) (C : ∀ j, j ≤ k → AllFn prog w K mg base W j f0 f1 f2 f3 f4 f5 f6 f7 f8 f9 f10 f11 f12 f13 f14 f15 f16 f17 f18 f19 f20 f21 f22 f23 f24 f25 f26 f27 f28 f29 f30 f31 f32 f33 f34 f35 x0 y0 x1 y1 xb f900 f901 xW g0 g1 g2 g3 g4 g5 g6 g7 g8 g9 g10 g11 g12 g13 g14 g15 g16 g17 g18 g19 g20 g21 g22 g23 g24 g25 g26 g27 g28 g29 g30 g31 g32 g33 g34 g35 g900 g901) : FnG prog w K mg base (k + 1) f31 g31 ["thing", "word", "many"] (spF K (CL x0 x1) TL fd31.md (runF W (enK W T k .stuck) fd31)) :=
  fn_den fd31 M.F31 sc31 rfl rfl rfl fun cdv A outer s H E hr hgd tk hcd => by
    have C0 := C k (Nat.le_refl k)
    have hu : (A.deeper (envOfC "is_called" (defScope s31) s.heap.objs.size f31 cdv)).units + 100 < cLine := by have := hr.un; omega
    have hk : (A.deeper (envOfC "is_called" (defScope s31) s.heap.objs.size f31 cdv)).units + 1 < cLine := by omega
    have hc : (A.deeper (envOfC "is_called" (defScope s31) s.heap.objs.size f31 cdv)).units + 65 < cLine := by omega
    have hpo := L2.passes_of (X := bodyCx prog w K mg base ["thing", "word", "many"] "is_called" (defScope s31) f31 cdv A outer s H E) rfl
    exact (bd_cons (sd_ret (pd_and (pd_call (f := 14) tk C0.c14 hr hgd (by rfl) M.m_is_tuple M.k14 M.b14 (ad_cons (dv 0) (ad_cons (dv 2) (ad_cons (dv 2) ad_nil)))) (pd_and (pd_isi .str (by rfl) M.z_isinstance (pd_idx (dv 0) pd_int (fun _ _ => rfl)) (by rfl) M.z_str bo_str) (pd_one (pd_cmp .eq hc (pd_idx (dv 0) pd_int (fun _ _ => rfl)) (dv 1) (nomark _)))))) bd_nil)
theorem ok32 (M : Top K mg f0 f1 f2 f3 f4 f5 f6 f7 f8 f9 f10 f11 f12 f13 f14 f15 f16 f17 f18 f19 f20 f21 f22 f23 f24 f25 f26 f27 f28 f29 f30 f31 f32 f33 f34 f35 x0 y0 x1 y1 xb f900 f901 xW g0 g1 g2 g3 g4 g5 g6 g7 g8 g9 g10 g11 g12 g13 g14 g15 g16 g17 g18 g19 g20 g21 g22 g23 g24 g25 g26 g27 g28 g29 g30 g31 g32 g33 g34 g35 g900 g901) (C : ∀ j, j ≤ k → AllFn prog w K mg base W j f0 f1 f2 f3 f4 f5 f6 f7 f8 f9 f10 f11 f12 f13 f14 f15 f16 f17 f18 f19 f20 f21 f22 f23 f24 f25 f26 f27 f28 f29 f30 f31 f32 f33 f34 f35 x0 y0 x1 y1 xb f900 f901 xW g0 g1 g2 g3 g4 g5 g6 g7 g8 g9 g10 g11 g12 g13 g14 g15 g16 g17 g18 g19 g20 g21 g22 g23 g24 g25 g26 g27 g28 g29 g30 g31 g32 g33 g34 g35 g900 g901) : FnG prog w K mg base (k + 1) f32 g32 ["kind"] (spF K (CL x0 x1) TL fd32.md (runF W (enK W T k .stuck) fd32)) :=
  fn_den fd32 M.F32 sc32 rfl rfl rfl fun cdv A outer s H E hr hgd tk hcd => by
    have C0 := C k (Nat.le_refl k)
    have hu : (A.deeper (envOfC "is_atom" (defScope s32) s.heap.objs.size f32 cdv)).units + 100 < cLine := by have := hr.un; omega
    have hk : (A.deeper (envOfC "is_atom" (defScope s32) s.heap.objs.size f32 cdv)).units + 1 < cLine := by omega
    have hc : (A.deeper (envOfC "is_atom" (defScope s32) s.heap.objs.size f32 cdv)).units + 65 < cLine := by omega
    have hpo := L2.passes_of (X := bodyCx prog w K mg base ["kind"] "is_atom" (defScope s32) f32 cdv A outer s H E) rfl
    exact (bd_cons (sd_ret (pd_isi .str (by rfl) M.z_isinstance (dv 0) (by rfl) M.z_str bo_str)) bd_nil)
theorem ok33 (M : Top K mg f0 f1 f2 f3 f4 f5 f6 f7 f8 f9 f10 f11 f12 f13 f14 f15 f16 f17 f18 f19 f20 f21 f22 f23 f24 f25 f26 f27 f28 f29 f30 f31 f32 f33 f34 f35 x0 y0 x1 y1 xb f900 f901 xW g0 g1 g2 g3 g4 g5 g6 g7 g8 g9 g10 g11 g12 g13 g14 g15 g16 g17 g18 g19 g20 g21 g22 g23 g24 g25 g26 g27 g28 g29 g30 g31 g32 g33 g34 g35 g900 g901) (C : ∀ j, j ≤ k → AllFn prog w K mg base W j f0 f1 f2 f3 f4 f5 f6 f7 f8 f9 f10 f11 f12 f13 f14 f15 f16 f17 f18 f19 f20 f21 f22 f23 f24 f25 f26 f27 f28 f29 f30 f31 f32 f33 f34 f35 x0 y0 x1 y1 xb f900 f901 xW g0 g1 g2 g3 g4 g5 g6 g7 g8 g9 g10 g11 g12 g13 g14 g15 g16 g17 g18 g19 g20 g21 g22 g23 g24 g25 g26 g27 g28 g29 g30 g31 g32 g33 g34 g35 g900 g901) : FnG prog w K mg base (k + 1) f33 g33 ["thing"] (spF K (CL x0 x1) TL fd33.md (runF W (enK W T k .stuck) fd33)) :=
  fn_den fd33 M.F33 sc33 rfl rfl rfl fun cdv A outer s H E hr hgd tk hcd => by
    have C0 := C k (Nat.le_refl k)
    have hu : (A.deeper (envOfC "_law_is_kind" (defScope s33) s.heap.objs.size f33 cdv)).units + 100 < cLine := by have := hr.un; omega
    have hk : (A.deeper (envOfC "_law_is_kind" (defScope s33) s.heap.objs.size f33 cdv)).units + 1 < cLine := by omega
    have hc : (A.deeper (envOfC "_law_is_kind" (defScope s33) s.heap.objs.size f33 cdv)).units + 65 < cLine := by omega
    have hpo := L2.passes_of (X := bodyCx prog w K mg base ["thing", "found"] "_law_is_kind" (defScope s33) f33 cdv A outer s H E) rfl
    exact (bd_cons (dset 1 sc33.nd (pd_call (f := 34) tk C0.c34 hr hgd (by rfl) M.m__law_deep_of M.k34 M.b34 (ad_cons (dv 0) ad_nil))) (bd_cons (sd_ret (pd_and (pd_cmp .isnot hc (dv 1) pd_non (nomark _)) (pd_and (pd_cmp .le hc (pd_idx (dv 1) pd_int (fun _ _ => rfl)) pd_int (nomark _)) (pd_one (pd_cmp .le hc (pd_idx (dv 1) pd_int (fun _ _ => rfl)) pd_int (nomark _)))))) bd_nil))
theorem ok34 (M : Top K mg f0 f1 f2 f3 f4 f5 f6 f7 f8 f9 f10 f11 f12 f13 f14 f15 f16 f17 f18 f19 f20 f21 f22 f23 f24 f25 f26 f27 f28 f29 f30 f31 f32 f33 f34 f35 x0 y0 x1 y1 xb f900 f901 xW g0 g1 g2 g3 g4 g5 g6 g7 g8 g9 g10 g11 g12 g13 g14 g15 g16 g17 g18 g19 g20 g21 g22 g23 g24 g25 g26 g27 g28 g29 g30 g31 g32 g33 g34 g35 g900 g901) (C : ∀ j, j ≤ k → AllFn prog w K mg base W j f0 f1 f2 f3 f4 f5 f6 f7 f8 f9 f10 f11 f12 f13 f14 f15 f16 f17 f18 f19 f20 f21 f22 f23 f24 f25 f26 f27 f28 f29 f30 f31 f32 f33 f34 f35 x0 y0 x1 y1 xb f900 f901 xW g0 g1 g2 g3 g4 g5 g6 g7 g8 g9 g10 g11 g12 g13 g14 g15 g16 g17 g18 g19 g20 g21 g22 g23 g24 g25 g26 g27 g28 g29 g30 g31 g32 g33 g34 g35 g900 g901) : FnG prog w K mg base (k + 1) f34 g34 ["thing"] (spF K (CL x0 x1) TL fd34.md (runF W (enK W T k .stuck) fd34)) :=
  fn_den fd34 M.F34 sc34 rfl rfl rfl fun cdv A outer s H E hr hgd tk hcd => by
    have C0 := C k (Nat.le_refl k)
    have hu : (A.deeper (envOfC "_law_deep_of" (defScope s34) s.heap.objs.size f34 cdv)).units + 100 < cLine := by have := hr.un; omega
    have hk : (A.deeper (envOfC "_law_deep_of" (defScope s34) s.heap.objs.size f34 cdv)).units + 1 < cLine := by omega
    have hc : (A.deeper (envOfC "_law_deep_of" (defScope s34) s.heap.objs.size f34 cdv)).units + 65 < cLine := by omega
    have hpo := L2.passes_of (X := bodyCx prog w K mg base ["thing", "one", "other"] "_law_deep_of" (defScope s34) f34 cdv A outer s H E) rfl
    exact (bd_cons (sd_ite (dtr (pd_call (f := 35) tk C0.c35 hr hgd (by rfl) M.m__law_is_name M.k35 M.b35 (ad_cons (dv 0) ad_nil))) (bd_cons (sd_ret (pd_tup (vd_cons pd_int (vd_cons pd_int vd_nil)))) bd_nil) bd_nil) (bd_cons (sd_ite (tdp (td_or (td_not (dtr (pd_isi .tuple (by rfl) M.z_isinstance (dv 0) (by rfl) M.z_tuple bo_tuple))) (tor1 (td_cmp .ne hc (pd_bltB .len call_lenD (by rfl) M.z_len bo_len (rd_cons (dv 0) rd_nil)) pd_int (nomark _))))) (bd_cons (sd_ret pd_non) bd_nil) bd_nil) (bd_cons (sd_par 1 2 rfl sc34.nd (by rfl) (by rfl) (by decide) (by rfl) (by rfl) (pd_call (f := 34) tk C0.c34 hr hgd (by rfl) M.m__law_deep_of M.k34 M.b34 (ad_cons (pd_idx (dv 0) pd_int (fun _ _ => rfl)) ad_nil)) (pd_call (f := 34) tk C0.c34 hr hgd (by rfl) M.m__law_deep_of M.k34 M.b34 (ad_cons (pd_idx (dv 0) pd_int (fun _ _ => rfl)) ad_nil)) (by rfl) (by rfl)) (bd_cons (sd_ite (tdp (td_or (td_cmp .is hc (dv 1) pd_non (nomark _)) (tor1 (td_cmp .is hc (dv 2) pd_non (nomark _))))) (bd_cons (sd_ret pd_non) bd_nil) bd_nil) (bd_cons (sd_ret (pd_tup (vd_cons (pd_bin .add (pd_idx (dv 1) pd_int (fun _ _ => rfl)) (pd_idx (dv 2) pd_int (fun _ _ => rfl))) (vd_cons (pd_bin .add pd_int (pd_bltB .max (call_maxD rfl) (by rfl) M.z_max bo_max (rd_cons (pd_idx (dv 1) pd_int (fun _ _ => rfl)) (rd_cons (pd_idx (dv 2) pd_int (fun _ _ => rfl)) rd_nil)))) vd_nil)))) bd_nil)))))
theorem ok35 (M : Top K mg f0 f1 f2 f3 f4 f5 f6 f7 f8 f9 f10 f11 f12 f13 f14 f15 f16 f17 f18 f19 f20 f21 f22 f23 f24 f25 f26 f27 f28 f29 f30 f31 f32 f33 f34 f35 x0 y0 x1 y1 xb f900 f901 xW g0 g1 g2 g3 g4 g5 g6 g7 g8 g9 g10 g11 g12 g13 g14 g15 g16 g17 g18 g19 g20 g21 g22 g23 g24 g25 g26 g27 g28 g29 g30 g31 g32 g33 g34 g35 g900 g901) (C : ∀ j, j ≤ k → AllFn prog w K mg base W j f0 f1 f2 f3 f4 f5 f6 f7 f8 f9 f10 f11 f12 f13 f14 f15 f16 f17 f18 f19 f20 f21 f22 f23 f24 f25 f26 f27 f28 f29 f30 f31 f32 f33 f34 f35 x0 y0 x1 y1 xb f900 f901 xW g0 g1 g2 g3 g4 g5 g6 g7 g8 g9 g10 g11 g12 g13 g14 g15 g16 g17 g18 g19 g20 g21 g22 g23 g24 g25 g26 g27 g28 g29 g30 g31 g32 g33 g34 g35 g900 g901) : FnG prog w K mg base (k + 1) f35 g35 ["thing"] (spF K (CL x0 x1) TL fd35.md (runF W (enK W T k .stuck) fd35)) :=
  fn_den fd35 M.F35 sc35 rfl rfl rfl fun cdv A outer s H E hr hgd tk hcd => by
    have C0 := C k (Nat.le_refl k)
    have hu : (A.deeper (envOfC "_law_is_name" (defScope s35) s.heap.objs.size f35 cdv)).units + 100 < cLine := by have := hr.un; omega
    have hk : (A.deeper (envOfC "_law_is_name" (defScope s35) s.heap.objs.size f35 cdv)).units + 1 < cLine := by omega
    have hc : (A.deeper (envOfC "_law_is_name" (defScope s35) s.heap.objs.size f35 cdv)).units + 65 < cLine := by omega
    have hpo := L2.passes_of (X := bodyCx prog w K mg base ["thing", "sign"] "_law_is_name" (defScope s35) f35 cdv A outer s H E) rfl
    exact (bd_cons (sd_ite (tdp (td_or (td_not (dtr (pd_isi .str (by rfl) M.z_isinstance (dv 0) (by rfl) M.z_str bo_str))) (tor1 (td_not (td_chain .le .le hc pd_int (pd_bltB .len call_lenD (by rfl) M.z_len bo_len (rd_cons (dv 0) rd_nil)) pd_int (by rfl)))))) (bd_cons (sd_ret pd_bl) bd_nil) bd_nil) (bd_cons (sd_ret (pd_bltB .all (call_allD rfl) (by rfl) M.z_all bo_all (rd_cons (pd_lc (own := [("sign", 1)]) (by decide) rfl sc35.nd (blkOk_by (by rfl)) (id_ex (dv 0)) (fun _ _ _ _ _ => (dn 1 sc35.nd)) (fun _ _ _ _ _ => cd_nil) (fun _ _ _ _ _ => (pd_cmp .isin hc (dv 1) pd_str (by rfl)))) rd_nil))) bd_nil))
theorem okW (M : Top K mg f0 f1 f2 f3 f4 f5 f6 f7 f8 f9 f10 f11 f12 f13 f14 f15 f16 f17 f18 f19 f20 f21 f22 f23 f24 f25 f26 f27 f28 f29 f30 f31 f32 f33 f34 f35 x0 y0 x1 y1 xb f900 f901 xW g0 g1 g2 g3 g4 g5 g6 g7 g8 g9 g10 g11 g12 g13 g14 g15 g16 g17 g18 g19 g20 g21 g22 g23 g24 g25 g26 g27 g28 g29 g30 g31 g32 g33 g34 g35 g900 g901) (C : ∀ j, j ≤ k → AllFn prog w K mg base W j f0 f1 f2 f3 f4 f5 f6 f7 f8 f9 f10 f11 f12 f13 f14 f15 f16 f17 f18 f19 f20 f21 f22 f23 f24 f25 f26 f27 f28 f29 f30 f31 f32 f33 f34 f35 x0 y0 x1 y1 xb f900 f901 xW g0 g1 g2 g3 g4 g5 g6 g7 g8 g9 g10 g11 g12 g13 g14 g15 g16 g17 g18 g19 g20 g21 g22 g23 g24 g25 g26 g27 g28 g29 g30 g31 g32 g33 g34 g35 g900 g901) : FnG prog w K mg base (k + 1) f900 g900 ["self", "library", "kind"] (spInit K xW (CL x0 x1) TL 0 fun dl dk => callF W T k 6 [.val dl, .val dk]) :=
  init_ok M.F900 sc900 rfl M.WC M.Wf (fun k => fill_ok M.F901 sc901 .mk M.WC (by rfl) M.z_dict bo_dict) M.b901 rfl (fun env => by rfl) fun cdv A outer s H E hr hgd tk => by
    have C0 := C k (Nat.le_refl k)
    have hu : (A.deeper (envOfC "Wish.__init__" (defScope s900) s.heap.objs.size f900 cdv)).units + 100 < cLine := by have := hr.un; omega
    have hk : (A.deeper (envOfC "Wish.__init__" (defScope s900) s.heap.objs.size f900 cdv)).units + 1 < cLine := by have := hr.un; omega
    have hc : (A.deeper (envOfC "Wish.__init__" (defScope s900) s.heap.objs.size f900 cdv)).units + 65 < cLine := by have := hr.un; omega
    exact ⟨(dset 3 sc900.nd (pd_call (f := 6) tk C0.c6 hr hgd (by rfl) M.m_wrong_part M.k6 M.b6 (ad_cons (dv 1) (ad_cons (dv 2) ad_nil)))), (sd_ite (td_cmp .isnot hc (dv 3) pd_non (nomark _)) (bd_cons (sd_raise1 tk rfl rfl M.X0.toXIni rfl hr (by rfl) M.mx_BadWish (dv 3)) bd_nil) bd_nil)⟩
theorem calls (M : Top K mg f0 f1 f2 f3 f4 f5 f6 f7 f8 f9 f10 f11 f12 f13 f14 f15 f16 f17 f18 f19 f20 f21 f22 f23 f24 f25 f26 f27 f28 f29 f30 f31 f32 f33 f34 f35 x0 y0 x1 y1 xb f900 f901 xW g0 g1 g2 g3 g4 g5 g6 g7 g8 g9 g10 g11 g12 g13 g14 g15 g16 g17 g18 g19 g20 g21 g22 g23 g24 g25 g26 g27 g28 g29 g30 g31 g32 g33 g34 g35 g900 g901)  : ∀ k j, j ≤ k → AllFn prog w K mg base W j f0 f1 f2 f3 f4 f5 f6 f7 f8 f9 f10 f11 f12 f13 f14 f15 f16 f17 f18 f19 f20 f21 f22 f23 f24 f25 f26 f27 f28 f29 f30 f31 f32 f33 f34 f35 x0 y0 x1 y1 xb f900 f901 xW g0 g1 g2 g3 g4 g5 g6 g7 g8 g9 g10 g11 g12 g13 g14 g15 g16 g17 g18 g19 g20 g21 g22 g23 g24 g25 g26 g27 g28 g29 g30 g31 g32 g33 g34 g35 g900 g901
  | 0, j, hj => by
    obtain rfl : j = 0 := by omega
    exact ⟨fn_zero, fn_zero, fn_zero, fn_zero, fn_zero, fn_zero, fn_zero, fn_zero, fn_zero, fn_zero, fn_zero, fn_zero, fn_zero, fn_zero, fn_zero, fn_zero, fn_zero, fn_zero, fn_zero, fn_zero, fn_zero, fn_zero, fn_zero, fn_zero, fn_zero, fn_zero, fn_zero, fn_zero, fn_zero, fn_zero, fn_zero, fn_zero, fn_zero, fn_zero, fn_zero, fn_zero, fun j h => by omega⟩
  | k + 1, j, hj => by
    have C := calls M  k
    by_cases z : j ≤ k
    · exact C j z
    · obtain rfl : j = k + 1 := by omega
      exact ⟨(callF_fun (W := W) (k := k) T_0) ▸ ok0 M  C, (callF_fun (W := W) (k := k) T_1) ▸ ok1 M  C, (callF_fun (W := W) (k := k) T_2) ▸ ok2 M  C, (callF_fun (W := W) (k := k) T_3) ▸ ok3 M  C, (callF_fun (W := W) (k := k) T_4) ▸ ok4 M  C, (callF_fun (W := W) (k := k) T_5) ▸ ok5 M  C, (callF_fun (W := W) (k := k) T_6) ▸ ok6 M  C, (callF_fun (W := W) (k := k) T_7) ▸ ok7 M  C, (callF_fun (W := W) (k := k) T_8) ▸ ok8 M  C, (callF_fun (W := W) (k := k) T_9) ▸ ok9 M  C, (callF_fun (W := W) (k := k) T_10) ▸ ok10 M  C, (callF_fun (W := W) (k := k) T_11) ▸ ok11 M  C, (callF_fun (W := W) (k := k) T_12) ▸ ok12 M  C, (callF_fun (W := W) (k := k) T_13) ▸ ok13 M  C, (callF_fun (W := W) (k := k) T_14) ▸ ok14 M  C, (callF_fun (W := W) (k := k) T_15) ▸ ok15 M  C, (callF_fun (W := W) (k := k) T_16) ▸ ok16 M  C, (callF_fun (W := W) (k := k) T_17) ▸ ok17 M  C, (callF_fun (W := W) (k := k) T_18) ▸ ok18 M  C, (callF_fun (W := W) (k := k) T_19) ▸ ok19 M  C, (callF_fun (W := W) (k := k) T_20) ▸ ok20 M  C, (callF_fun (W := W) (k := k) T_21) ▸ ok21 M  C, (callF_fun (W := W) (k := k) T_22) ▸ ok22 M  C, (callF_fun (W := W) (k := k) T_23) ▸ ok23 M  C, (callF_fun (W := W) (k := k) T_24) ▸ ok24 M  C, (callF_fun (W := W) (k := k) T_25) ▸ ok25 M  C, (callF_fun (W := W) (k := k) T_26) ▸ ok26 M  C, (callF_fun (W := W) (k := k) T_27) ▸ ok27 M  C, (callF_fun (W := W) (k := k) T_28) ▸ ok28 M  C, (callF_fun (W := W) (k := k) T_29) ▸ ok29 M  C, (callF_fun (W := W) (k := k) T_30) ▸ ok30 M  C, (callF_fun (W := W) (k := k) T_31) ▸ ok31 M  C, (callF_fun (W := W) (k := k) T_32) ▸ ok32 M  C, (callF_fun (W := W) (k := k) T_33) ▸ ok33 M  C, (callF_fun (W := W) (k := k) T_34) ▸ ok34 M  C, (callF_fun (W := W) (k := k) T_35) ▸ ok35 M  C, (fun j h => by
        obtain rfl : j = k := by omega
        exact okW M C)⟩
end
theorem all_mk {w : World} {K : PySem.W.Frag} {h : Heap} {mg : Str → Option Value} {fa f0 f1 f2 f3 f4 f5 f6 f7 f8 f9 f10 f11 f12 f13 f14 f15 f16 f17 f18 f19 f20 f21 f22 f23 f24 f25 f26 f27 f28 f29 f30 f31 f32 f33 f34 f35 x0 y0 x1 y1 xb f900 f901 xW : Addr} (X : K.In h) (G : h.Ns mainGlobals mg) (hfa : mg "law" = some (.ref fa))
    {od0 an0 od1 an1 od2 an2 od3 an3 od4 an4 od5 an5 od6 an6 od7 an7 od8 an8 od9 an9 od10 an10 od11 an11 od12 an12 od13 an13 od14 an14 od15 an15 od16 an16 od17 an17 od18 an18 od19 an19 od20 an20 od21 an21 od22 an22 od23 an23 od24 an24 od25 an25 od26 an26 od27 an27 od28 an28 od29 an29 od30 an30 od31 an31 od32 an32 od33 an33 od34 an34 od35 an35 od900 an900 od901 an901 : Option Addr} {sl0 sl1 sl2 sl3 sl4 sl5 sl6 sl7 sl8 sl9 sl10 sl11 sl12 sl13 sl14 sl15 sl16 sl17 sl18 sl19 sl20 sl21 sl22 sl23 sl24 sl25 sl26 sl27 sl28 sl29 sl30 sl31 sl32 sl33 sl34 sl35 sl900 sl901 : Array (Option Value)} {oc0 kV0 dc0 pm0 cd0 ct0 oc1 kV1 dc1 pm1 cd1 ct1 oc2 kV2 dc2 pm2 cd2 ct2 oc3 kV3 dc3 pm3 cd3 ct3 oc4 kV4 dc4 pm4 cd4 ct4 oc5 kV5 dc5 pm5 cd5 ct5 oc6 kV6 dc6 pm6 cd6 ct6 oc7 kV7 dc7 pm7 cd7 ct7 oc8 kV8 dc8 pm8 cd8 ct8 oc9 kV9 dc9 pm9 cd9 ct9 oc10 kV10 dc10 pm10 cd10 ct10 oc11 kV11 dc11 pm11 cd11 ct11 oc12 kV12 dc12 pm12 cd12 ct12 oc13 kV13 dc13 pm13 cd13 ct13 oc14 kV14 dc14 pm14 cd14 ct14 oc15 kV15 dc15 pm15 cd15 ct15 oc16 kV16 dc16 pm16 cd16 ct16 oc17 kV17 dc17 pm17 cd17 ct17 oc18 kV18 dc18 pm18 cd18 ct18 oc19 kV19 dc19 pm19 cd19 ct19 oc20 kV20 dc20 pm20 cd20 ct20 oc21 kV21 dc21 pm21 cd21 ct21 oc22 kV22 dc22 pm22 cd22 ct22 oc23 kV23 dc23 pm23 cd23 ct23 oc24 kV24 dc24 pm24 cd24 ct24 oc25 kV25 dc25 pm25 cd25 ct25 oc26 kV26 dc26 pm26 cd26 ct26 oc27 kV27 dc27 pm27 cd27 ct27 oc28 kV28 dc28 pm28 cd28 ct28 oc29 kV29 dc29 pm29 cd29 ct29 oc30 kV30 dc30 pm30 cd30 ct30 oc31 kV31 dc31 pm31 cd31 ct31 oc32 kV32 dc32 pm32 cd32 ct32 oc33 kV33 dc33 pm33 cd33 ct33 oc34 kV34 dc34 pm34 cd34 ct34 oc35 kV35 dc35 pm35 cd35 ct35 oc900 kV900 dc900 pm900 cd900 ct900 oc901 kV901 dc901 pm901 cd901 ct901 : Value}
    {t_MOST_NAMES t_MOST_LETTERS t_LETTERS t_MOST_NESTED t_MOST_ATOMS t_FUN t_USE : Nat}
    (axW : PySem.W.nsIn K mainGlobals "Wish" = some (some (.ref xW)))
    (wm2 : PySem.W.findIn K (.ref xW) "__init__" = some (some (.ref f900)))
    (wf1 : PySem.W.findIn K (.ref xW) "fill" = some (some (.ref f901)))
    (a__law_hand : PySem.W.nsIn K mainGlobals "_law_hand" = some (some (.ref f1)))
    (a__law_is_known_right : PySem.W.nsIn K mainGlobals "_law_is_known_right" = some (some (.ref f2)))
    (a__law_library : PySem.W.nsIn K mainGlobals "_law_library" = some (some (.ref f3)))
    (a__law_kind : PySem.W.nsIn K mainGlobals "_law_kind" = some (some (.ref f4)))
    (a__law_draw : PySem.W.nsIn K mainGlobals "_law_draw" = some (some (.ref f5)))
    (a_wrong_part : PySem.W.nsIn K mainGlobals "wrong_part" = some (some (.ref f6)))
    (a__law_made : PySem.W.nsIn K mainGlobals "_law_made" = some (some (.ref f7)))
    (a__law_deep_thing : PySem.W.nsIn K mainGlobals "_law_deep_thing" = some (some (.ref f8)))
    (a__law_spoiled : PySem.W.nsIn K mainGlobals "_law_spoiled" = some (some (.ref f9)))
    (a__law_is_judged : PySem.W.nsIn K mainGlobals "_law_is_judged" = some (some (.ref f10)))
    (a__law_told : PySem.W.nsIn K mainGlobals "_law_told" = some (some (.ref f11)))
    (a_is_program : PySem.W.nsIn K mainGlobals "is_program" = some (some (.ref f12)))
    (a__law_atom : PySem.W.nsIn K mainGlobals "_law_atom" = some (some (.ref f13)))
    (a_is_tuple : PySem.W.nsIn K mainGlobals "is_tuple" = some (some (.ref f14)))
    (a_is_name : PySem.W.nsIn K mainGlobals "is_name" = some (some (.ref f15)))
    (a_is_kind : PySem.W.nsIn K mainGlobals "is_kind" = some (some (.ref f16)))
    (a__law_drops : PySem.W.nsIn K mainGlobals "_law_drops" = some (some (.ref f17)))
    (a__law_some : PySem.W.nsIn K mainGlobals "_law_some" = some (some (.ref f18)))
    (a__law_wild : PySem.W.nsIn K mainGlobals "_law_wild" = some (some (.ref f19)))
    (a__law_due : PySem.W.nsIn K mainGlobals "_law_due" = some (some (.ref f20)))
    (a__law_is : PySem.W.nsIn K mainGlobals "_law_is" = some (some (.ref f21)))
    (a_kind_of : PySem.W.nsIn K mainGlobals "kind_of" = some (some (.ref f22)))
    (a_has_form : PySem.W.nsIn K mainGlobals "has_form" = some (some (.ref f23)))
    (a_kind_in : PySem.W.nsIn K mainGlobals "kind_in" = some (some (.ref f24)))
    (a_atoms_in : PySem.W.nsIn K mainGlobals "atoms_in" = some (some (.ref f25)))
    (a__law_has_form : PySem.W.nsIn K mainGlobals "_law_has_form" = some (some (.ref f26)))
    (a__law_kindd : PySem.W.nsIn K mainGlobals "_law_kindd" = some (some (.ref f27)))
    (a_check_form : PySem.W.nsIn K mainGlobals "check_form" = some (some (.ref f28)))
    (a_is_integer : PySem.W.nsIn K mainGlobals "is_integer" = some (some (.ref f29)))
    (a_is_within : PySem.W.nsIn K mainGlobals "is_within" = some (some (.ref f30)))
    (a_is_called : PySem.W.nsIn K mainGlobals "is_called" = some (some (.ref f31)))
    (a_is_atom : PySem.W.nsIn K mainGlobals "is_atom" = some (some (.ref f32)))
    (a__law_is_kind : PySem.W.nsIn K mainGlobals "_law_is_kind" = some (some (.ref f33)))
    (a__law_deep_of : PySem.W.nsIn K mainGlobals "_law_deep_of" = some (some (.ref f34)))
    (a__law_is_name : PySem.W.nsIn K mainGlobals "_law_is_name" = some (some (.ref f35)))
    (a_law : PySem.W.nsIn K mainGlobals "law" = some (some (.ref f0)))
    (l0 : K.lookup f0 = some ⟨oc0, od0, .func (PySem.W.fnOf "law" "law" (defArgs s0) (defBody s0) (defScope s0) .none kV0 dc0 pm0 an0 cd0 ct0), sl0⟩)
    (h0 : PySem.W.codeIn K cd0 "law" = true)
    (k0 : PySem.W.keepIn K (.ref f0) = true)
    (l1 : K.lookup f1 = some ⟨oc1, od1, .func (PySem.W.fnOf "_law_hand" "_law_hand" (defArgs s1) (defBody s1) (defScope s1) .none kV1 dc1 pm1 an1 cd1 ct1), sl1⟩)
    (h1 : PySem.W.codeIn K cd1 "_law_hand" = true)
    (k1 : PySem.W.keepIn K (.ref f1) = true)
    (l2 : K.lookup f2 = some ⟨oc2, od2, .func (PySem.W.fnOf "_law_is_known_right" "_law_is_known_right" (defArgs s2) (defBody s2) (defScope s2) .none kV2 dc2 pm2 an2 cd2 ct2), sl2⟩)
    (h2 : PySem.W.codeIn K cd2 "_law_is_known_right" = true)
    (k2 : PySem.W.keepIn K (.ref f2) = true)
    (l3 : K.lookup f3 = some ⟨oc3, od3, .func (PySem.W.fnOf "_law_library" "_law_library" (defArgs s3) (defBody s3) (defScope s3) .none kV3 dc3 pm3 an3 cd3 ct3), sl3⟩)
    (h3 : PySem.W.codeIn K cd3 "_law_library" = true)
    (k3 : PySem.W.keepIn K (.ref f3) = true)
    (l4 : K.lookup f4 = some ⟨oc4, od4, .func (PySem.W.fnOf "_law_kind" "_law_kind" (defArgs s4) (defBody s4) (defScope s4) .none kV4 dc4 pm4 an4 cd4 ct4), sl4⟩)
    (h4 : PySem.W.codeIn K cd4 "_law_kind" = true)
    (k4 : PySem.W.keepIn K (.ref f4) = true)
    (l5 : K.lookup f5 = some ⟨oc5, od5, .func (PySem.W.fnOf "_law_draw" "_law_draw" (defArgs s5) (defBody s5) (defScope s5) .none kV5 dc5 pm5 an5 cd5 ct5), sl5⟩)
    (h5 : PySem.W.codeIn K cd5 "_law_draw" = true)
    (k5 : PySem.W.keepIn K (.ref f5) = true)
    (l6 : K.lookup f6 = some ⟨oc6, od6, .func (PySem.W.fnOf "wrong_part" "wrong_part" (defArgs s6) (defBody s6) (defScope s6) .none kV6 dc6 pm6 an6 cd6 ct6), sl6⟩)
    (h6 : PySem.W.codeIn K cd6 "wrong_part" = true)
    (k6 : PySem.W.keepIn K (.ref f6) = true)
    (l7 : K.lookup f7 = some ⟨oc7, od7, .func (PySem.W.fnOf "_law_made" "_law_made" (defArgs s7) (defBody s7) (defScope s7) .none kV7 dc7 pm7 an7 cd7 ct7), sl7⟩)
    (h7 : PySem.W.codeIn K cd7 "_law_made" = true)
    (k7 : PySem.W.keepIn K (.ref f7) = true)
    (l8 : K.lookup f8 = some ⟨oc8, od8, .func (PySem.W.fnOf "_law_deep_thing" "_law_deep_thing" (defArgs s8) (defBody s8) (defScope s8) .none kV8 dc8 pm8 an8 cd8 ct8), sl8⟩)
    (h8 : PySem.W.codeIn K cd8 "_law_deep_thing" = true)
    (k8 : PySem.W.keepIn K (.ref f8) = true)
    (l9 : K.lookup f9 = some ⟨oc9, od9, .func (PySem.W.fnOf "_law_spoiled" "_law_spoiled" (defArgs s9) (defBody s9) (defScope s9) .none kV9 dc9 pm9 an9 cd9 ct9), sl9⟩)
    (h9 : PySem.W.codeIn K cd9 "_law_spoiled" = true)
    (k9 : PySem.W.keepIn K (.ref f9) = true)
    (l10 : K.lookup f10 = some ⟨oc10, od10, .func (PySem.W.fnOf "_law_is_judged" "_law_is_judged" (defArgs s10) (defBody s10) (defScope s10) .none kV10 dc10 pm10 an10 cd10 ct10), sl10⟩)
    (h10 : PySem.W.codeIn K cd10 "_law_is_judged" = true)
    (k10 : PySem.W.keepIn K (.ref f10) = true)
    (l11 : K.lookup f11 = some ⟨oc11, od11, .func (PySem.W.fnOf "_law_told" "_law_told" (defArgs s11) (defBody s11) (defScope s11) .none kV11 dc11 pm11 an11 cd11 ct11), sl11⟩)
    (h11 : PySem.W.codeIn K cd11 "_law_told" = true)
    (k11 : PySem.W.keepIn K (.ref f11) = true)
    (l12 : K.lookup f12 = some ⟨oc12, od12, .func (PySem.W.fnOf "is_program" "is_program" (defArgs s12) (defBody s12) (defScope s12) .none kV12 dc12 pm12 an12 cd12 ct12), sl12⟩)
    (h12 : PySem.W.codeIn K cd12 "is_program" = true)
    (k12 : PySem.W.keepIn K (.ref f12) = true)
    (l13 : K.lookup f13 = some ⟨oc13, od13, .func (PySem.W.fnOf "_law_atom" "_law_atom" (defArgs s13) (defBody s13) (defScope s13) .none kV13 dc13 pm13 an13 cd13 ct13), sl13⟩)
    (h13 : PySem.W.codeIn K cd13 "_law_atom" = true)
    (k13 : PySem.W.keepIn K (.ref f13) = true)
    (l14 : K.lookup f14 = some ⟨oc14, od14, .func (PySem.W.fnOf "is_tuple" "is_tuple" (defArgs s14) (defBody s14) (defScope s14) .none kV14 dc14 pm14 an14 cd14 ct14), sl14⟩)
    (h14 : PySem.W.codeIn K cd14 "is_tuple" = true)
    (k14 : PySem.W.keepIn K (.ref f14) = true)
    (l15 : K.lookup f15 = some ⟨oc15, od15, .func (PySem.W.fnOf "is_name" "is_name" (defArgs s15) (defBody s15) (defScope s15) .none kV15 dc15 pm15 an15 cd15 ct15), sl15⟩)
    (h15 : PySem.W.codeIn K cd15 "is_name" = true)
    (k15 : PySem.W.keepIn K (.ref f15) = true)
    (l16 : K.lookup f16 = some ⟨oc16, od16, .func (PySem.W.fnOf "is_kind" "is_kind" (defArgs s16) (defBody s16) (defScope s16) .none kV16 dc16 pm16 an16 cd16 ct16), sl16⟩)
    (h16 : PySem.W.codeIn K cd16 "is_kind" = true)
    (k16 : PySem.W.keepIn K (.ref f16) = true)
    (l17 : K.lookup f17 = some ⟨oc17, od17, .func (PySem.W.fnOf "_law_drops" "_law_drops" (defArgs s17) (defBody s17) (defScope s17) .none kV17 dc17 pm17 an17 cd17 ct17), sl17⟩)
    (h17 : PySem.W.codeIn K cd17 "_law_drops" = true)
    (k17 : PySem.W.keepIn K (.ref f17) = true)
    (l18 : K.lookup f18 = some ⟨oc18, od18, .func (PySem.W.fnOf "_law_some" "_law_some" (defArgs s18) (defBody s18) (defScope s18) .none kV18 dc18 pm18 an18 cd18 ct18), sl18⟩)
    (h18 : PySem.W.codeIn K cd18 "_law_some" = true)
    (k18 : PySem.W.keepIn K (.ref f18) = true)
    (l19 : K.lookup f19 = some ⟨oc19, od19, .func (PySem.W.fnOf "_law_wild" "_law_wild" (defArgs s19) (defBody s19) (defScope s19) .none kV19 dc19 pm19 an19 cd19 ct19), sl19⟩)
    (h19 : PySem.W.codeIn K cd19 "_law_wild" = true)
    (k19 : PySem.W.keepIn K (.ref f19) = true)
    (l20 : K.lookup f20 = some ⟨oc20, od20, .func (PySem.W.fnOf "_law_due" "_law_due" (defArgs s20) (defBody s20) (defScope s20) .none kV20 dc20 pm20 an20 cd20 ct20), sl20⟩)
    (h20 : PySem.W.codeIn K cd20 "_law_due" = true)
    (k20 : PySem.W.keepIn K (.ref f20) = true)
    (l21 : K.lookup f21 = some ⟨oc21, od21, .func (PySem.W.fnOf "_law_is" "_law_is" (defArgs s21) (defBody s21) (defScope s21) .none kV21 dc21 pm21 an21 cd21 ct21), sl21⟩)
    (h21 : PySem.W.codeIn K cd21 "_law_is" = true)
    (k21 : PySem.W.keepIn K (.ref f21) = true)
    (l22 : K.lookup f22 = some ⟨oc22, od22, .func (PySem.W.fnOf "kind_of" "kind_of" (defArgs s22) (defBody s22) (defScope s22) .none kV22 dc22 pm22 an22 cd22 ct22), sl22⟩)
    (h22 : PySem.W.codeIn K cd22 "kind_of" = true)
    (k22 : PySem.W.keepIn K (.ref f22) = true)
    (l23 : K.lookup f23 = some ⟨oc23, od23, .func (PySem.W.fnOf "has_form" "has_form" (defArgs s23) (defBody s23) (defScope s23) .none kV23 dc23 pm23 an23 cd23 ct23), sl23⟩)
    (h23 : PySem.W.codeIn K cd23 "has_form" = true)
    (k23 : PySem.W.keepIn K (.ref f23) = true)
    (l24 : K.lookup f24 = some ⟨oc24, od24, .func (PySem.W.fnOf "kind_in" "kind_in" (defArgs s24) (defBody s24) (defScope s24) .none kV24 dc24 pm24 an24 cd24 ct24), sl24⟩)
    (h24 : PySem.W.codeIn K cd24 "kind_in" = true)
    (k24 : PySem.W.keepIn K (.ref f24) = true)
    (l25 : K.lookup f25 = some ⟨oc25, od25, .func (PySem.W.fnOf "atoms_in" "atoms_in" (defArgs s25) (defBody s25) (defScope s25) .none kV25 dc25 pm25 an25 cd25 ct25), sl25⟩)
    (h25 : PySem.W.codeIn K cd25 "atoms_in" = true)
    (k25 : PySem.W.keepIn K (.ref f25) = true)
    (l26 : K.lookup f26 = some ⟨oc26, od26, .func (PySem.W.fnOf "_law_has_form" "_law_has_form" (defArgs s26) (defBody s26) (defScope s26) .none kV26 dc26 pm26 an26 cd26 ct26), sl26⟩)
    (h26 : PySem.W.codeIn K cd26 "_law_has_form" = true)
    (k26 : PySem.W.keepIn K (.ref f26) = true)
    (l27 : K.lookup f27 = some ⟨oc27, od27, .func (PySem.W.fnOf "_law_kindd" "_law_kindd" (defArgs s27) (defBody s27) (defScope s27) .none kV27 dc27 pm27 an27 cd27 ct27), sl27⟩)
    (h27 : PySem.W.codeIn K cd27 "_law_kindd" = true)
    (k27 : PySem.W.keepIn K (.ref f27) = true)
    (l28 : K.lookup f28 = some ⟨oc28, od28, .func (PySem.W.fnOf "check_form" "check_form" (defArgs s28) (defBody s28) (defScope s28) .none kV28 dc28 pm28 an28 cd28 ct28), sl28⟩)
    (h28 : PySem.W.codeIn K cd28 "check_form" = true)
    (k28 : PySem.W.keepIn K (.ref f28) = true)
    (l29 : K.lookup f29 = some ⟨oc29, od29, .func (PySem.W.fnOf "is_integer" "is_integer" (defArgs s29) (defBody s29) (defScope s29) .none kV29 dc29 pm29 an29 cd29 ct29), sl29⟩)
    (h29 : PySem.W.codeIn K cd29 "is_integer" = true)
    (k29 : PySem.W.keepIn K (.ref f29) = true)
    (l30 : K.lookup f30 = some ⟨oc30, od30, .func (PySem.W.fnOf "is_within" "is_within" (defArgs s30) (defBody s30) (defScope s30) .none kV30 dc30 pm30 an30 cd30 ct30), sl30⟩)
    (h30 : PySem.W.codeIn K cd30 "is_within" = true)
    (k30 : PySem.W.keepIn K (.ref f30) = true)
    (l31 : K.lookup f31 = some ⟨oc31, od31, .func (PySem.W.fnOf "is_called" "is_called" (defArgs s31) (defBody s31) (defScope s31) .none kV31 dc31 pm31 an31 cd31 ct31), sl31⟩)
    (h31 : PySem.W.codeIn K cd31 "is_called" = true)
    (k31 : PySem.W.keepIn K (.ref f31) = true)
    (l32 : K.lookup f32 = some ⟨oc32, od32, .func (PySem.W.fnOf "is_atom" "is_atom" (defArgs s32) (defBody s32) (defScope s32) .none kV32 dc32 pm32 an32 cd32 ct32), sl32⟩)
    (h32 : PySem.W.codeIn K cd32 "is_atom" = true)
    (k32 : PySem.W.keepIn K (.ref f32) = true)
    (l33 : K.lookup f33 = some ⟨oc33, od33, .func (PySem.W.fnOf "_law_is_kind" "_law_is_kind" (defArgs s33) (defBody s33) (defScope s33) .none kV33 dc33 pm33 an33 cd33 ct33), sl33⟩)
    (h33 : PySem.W.codeIn K cd33 "_law_is_kind" = true)
    (k33 : PySem.W.keepIn K (.ref f33) = true)
    (l34 : K.lookup f34 = some ⟨oc34, od34, .func (PySem.W.fnOf "_law_deep_of" "_law_deep_of" (defArgs s34) (defBody s34) (defScope s34) .none kV34 dc34 pm34 an34 cd34 ct34), sl34⟩)
    (h34 : PySem.W.codeIn K cd34 "_law_deep_of" = true)
    (k34 : PySem.W.keepIn K (.ref f34) = true)
    (l35 : K.lookup f35 = some ⟨oc35, od35, .func (PySem.W.fnOf "_law_is_name" "_law_is_name" (defArgs s35) (defBody s35) (defScope s35) .none kV35 dc35 pm35 an35 cd35 ct35), sl35⟩)
    (h35 : PySem.W.codeIn K cd35 "_law_is_name" = true)
    (k35 : PySem.W.keepIn K (.ref f35) = true)
    (l900 : K.lookup f900 = some ⟨oc900, od900, .func (PySem.W.fnOf "__init__" "Wish.__init__" (defArgs s900) (defBody s900) (defScope s900) .none kV900 dc900 pm900 an900 cd900 ct900), sl900⟩)
    (h900 : PySem.W.codeIn K cd900 "Wish.__init__" = true)
    (k900 : PySem.W.keepIn K (.ref f900) = true)
    (l901 : K.lookup f901 = some ⟨oc901, od901, .func (PySem.W.fnOf "fill" "Wish.fill" (defArgs s901) (defBody s901) (defScope s901) .none kV901 dc901 pm901 an901 cd901 ct901), sl901⟩)
    (h901 : PySem.W.codeIn K cd901 "Wish.fill" = true)
    (k901 : PySem.W.keepIn K (.ref f901) = true)
    (ax0 : PySem.W.nsIn K mainGlobals "BadWish" = some (some (.ref x0)))
    (X0 : ExCls K prog x0 y0 (some "part") ["self", "part"] "__init__" "BadWish.__init__" (inClass (top 10) 0))
    (ax1 : PySem.W.nsIn K mainGlobals "NoProgram" = some (some (.ref x1)))
    (X1 : ExCls K prog x1 y1 none ["self"] "__init__" "NoProgram.__init__" (inClass (top 11) 0))
    (axb : PySem.W.nsIn K mainGlobals "KindWishError" = some (some (.ref xb)))
    (cfb : ClsF K xb)
    (sb0 : PySem.W.subIn K (.ref x0) (.ref xb) = some true)
    (sb1 : PySem.W.subIn K (.ref x1) (.ref xb) = some true)
    (s0_1 : PySem.W.subIn K (.ref x0) (.ref x1) = some false)
    (d0_1 : x0 ≠ x1)
    (s1_1 : PySem.W.subIn K (.ref x1) (.ref x1) = some true)
    (wm1 : PySem.W.makesIn K xW = true)
    (wm3 : PySem.W.isFn K (.ref f900) = true)
    (wm4 : PySem.W.keepIn K (.ref xW) = true)
    (wf2 : PySem.W.isFn K (.ref f901) = true)
    (wf3 : PySem.W.keepIn K (.ref f901) = true)
    (wc1 : PySem.W.plainGet K xW Str.empty = true)
    (wc2 : PySem.W.hasDictIn K xW = true)
    (wc3 : PySem.W.plainOver K xW = true)
    (wc4 : PySem.W.findIn K (.ref xW) "__setattr__" = some (some (.builtin "object.__setattr__")))
    (wc5 : PySem.W.findIn K (.ref xW) "__class__" = some (some (.builtin "object.__class__")))
    (wc6 : PySem.W.specialIn K (.builtin "object.__class__") "__get__" = some (some (.builtin "getset_descriptor.__get__")))
    (wc7 : PySem.W.takesIn K (.builtin "object.__class__") = some true)
    (wc8 : PySem.W.mroIn K xW (.type "object") = some true)
    (wk1 : PySem.W.subIn K (.ref xW) (.type "int") = some false)
    (wk2 : PySem.W.subIn K (.ref xW) (.type "str") = some false)
    (wk3 : PySem.W.subIn K (.ref xW) (.type "bool") = some false)
    (wk4 : PySem.W.subIn K (.ref xW) (.type "tuple") = some false)
    (wk5 : PySem.W.subIn K (.ref xW) (.type "list") = some false)
    (wk6 : PySem.W.subIn K (.ref xW) (.type "dict") = some false)
    (wn1 : PySem.W.findIn K (.ref xW) "library" = some none)
    (wn2 : PySem.W.findIn K (.ref xW) "kind" = some none)
    (wn3 : PySem.W.findIn K (.ref xW) "kinds" = some none)
    (ww1 : PySem.W.isClsIn K xW = true)
    (ww2 : PySem.W.typeIn K (.ref xW) = some (.type "type"))
    (wt0 : PySem.W.subIn K (.type "NoneType") (.ref xW) = some false)
    (wt1 : PySem.W.subIn K (.type "int") (.ref xW) = some false)
    (wt2 : PySem.W.subIn K (.type "str") (.ref xW) = some false)
    (wt3 : PySem.W.subIn K (.type "bool") (.ref xW) = some false)
    (wt4 : PySem.W.subIn K (.type "tuple") (.ref xW) = some false)
    (wt5 : PySem.W.subIn K (.type "list") (.ref xW) = some false)
    (wt6 : PySem.W.subIn K (.type "dict") (.ref xW) = some false)
    (z_ValueError : PySem.W.nsIn K mainGlobals "ValueError" = some none)
    (z_abs : PySem.W.nsIn K mainGlobals "abs" = some none)
    (z_all : PySem.W.nsIn K mainGlobals "all" = some none)
    (z_bool : PySem.W.nsIn K mainGlobals "bool" = some none)
    (z_dict : PySem.W.nsIn K mainGlobals "dict" = some none)
    (z_enumerate : PySem.W.nsIn K mainGlobals "enumerate" = some none)
    (z_int : PySem.W.nsIn K mainGlobals "int" = some none)
    (z_isinstance : PySem.W.nsIn K mainGlobals "isinstance" = some none)
    (z_len : PySem.W.nsIn K mainGlobals "len" = some none)
    (z_list : PySem.W.nsIn K mainGlobals "list" = some none)
    (z_max : PySem.W.nsIn K mainGlobals "max" = some none)
    (z_min : PySem.W.nsIn K mainGlobals "min" = some none)
    (z_range : PySem.W.nsIn K mainGlobals "range" = some none)
    (z_repr : PySem.W.nsIn K mainGlobals "repr" = some none)
    (z_str : PySem.W.nsIn K mainGlobals "str" = some none)
    (z_tuple : PySem.W.nsIn K mainGlobals "tuple" = some none)
    (v_MOST_NAMES : PySem.W.nsIn K mainGlobals "MOST_NAMES" = some (some (.int 10 t_MOST_NAMES)))
    (v_MOST_LETTERS : PySem.W.nsIn K mainGlobals "MOST_LETTERS" = some (some (.int 8 t_MOST_LETTERS)))
    (v_LETTERS : PySem.W.nsIn K mainGlobals "LETTERS" = some (some (.str "abcdefghijklmnopqrstuvwxyz" t_LETTERS)))
    (v_MOST_NESTED : PySem.W.nsIn K mainGlobals "MOST_NESTED" = some (some (.int 15 t_MOST_NESTED)))
    (v_MOST_ATOMS : PySem.W.nsIn K mainGlobals "MOST_ATOMS" = some (some (.int 30 t_MOST_ATOMS)))
    (v_FUN : PySem.W.nsIn K mainGlobals "FUN" = some (some (.str "fun" t_FUN)))
    (v_USE : PySem.W.nsIn K mainGlobals "USE" = some (some (.str "use" t_USE)))
    : ∃ (fd : FuncData) (cl : List (Addr × Option Str)) (cs : List (Addr × Addr × Str)), (∀ (s : Shared) (v : Value), BindsTo s fd ⟨[v], []⟩ [("script", v)]) ∧ (∀ p ∈ cs, PySem.W.CodeHd h p.1 p.2.1 ∧ h.get? p.2.1 = some (PySem.W.tabObj #[])) ∧ (∀ p ∈ cs, K.lookup p.2.1 = none) ∧
      ∀ base : Heap, K.In base → base.Ns mainGlobals mg → (∀ p ∈ cs, LamX.TabB base mg p.1 p.2.1) → FnG prog w K mg base 220 fa fd ["script"] (spF K cl (cs.map (·.2)) fd0.md (callF 2000 T 220 0)) := by
  have e := hfa.symm.trans (PySem.W.mg_of X G a_law)
  cases e
  have F0 := fun_mk (st := s0) l0 h0 k0
  have F1 := fun_mk (st := s1) l1 h1 k1
  have F2 := fun_mk (st := s2) l2 h2 k2
  have F3 := fun_mk (st := s3) l3 h3 k3
  have F4 := fun_mk (st := s4) l4 h4 k4
  have F5 := fun_mk (st := s5) l5 h5 k5
  have F6 := fun_mk (st := s6) l6 h6 k6
  have F7 := fun_mk (st := s7) l7 h7 k7
  have F8 := fun_mk (st := s8) l8 h8 k8
  have F9 := fun_mk (st := s9) l9 h9 k9
  have F10 := fun_mk (st := s10) l10 h10 k10
  have F11 := fun_mk (st := s11) l11 h11 k11
  have F12 := fun_mk (st := s12) l12 h12 k12
  have F13 := fun_mk (st := s13) l13 h13 k13
  have F14 := fun_mk (st := s14) l14 h14 k14
  have F15 := fun_mk (st := s15) l15 h15 k15
  have F16 := fun_mk (st := s16) l16 h16 k16
  have F17 := fun_mk (st := s17) l17 h17 k17
  have F18 := fun_mk (st := s18) l18 h18 k18
  have F19 := fun_mk (st := s19) l19 h19 k19
  have F20 := fun_mk (st := s20) l20 h20 k20
  have F21 := fun_mk (st := s21) l21 h21 k21
  have F22 := fun_mk (st := s22) l22 h22 k22
  have F23 := fun_mk (st := s23) l23 h23 k23
  have F24 := fun_mk (st := s24) l24 h24 k24
  have F25 := fun_mk (st := s25) l25 h25 k25
  have F26 := fun_mk (st := s26) l26 h26 k26
  have F27 := fun_mk (st := s27) l27 h27 k27
  have F28 := fun_mk (st := s28) l28 h28 k28
  have F29 := fun_mk (st := s29) l29 h29 k29
  have F30 := fun_mk (st := s30) l30 h30 k30
  have F31 := fun_mk (st := s31) l31 h31 k31
  have F32 := fun_mk (st := s32) l32 h32 k32
  have F33 := fun_mk (st := s33) l33 h33 k33
  have F34 := fun_mk (st := s34) l34 h34 k34
  have F35 := fun_mk (st := s35) l35 h35 k35
  have F900 := fun_mk (st := s900) l900 h900 k900
  have F901 := fun_mk (st := s901) l901 h901 k901
  have b0 := F0.binds (ps := ["script"]) fun _ _ _ _ _ _ us hl => match us, hl with | [_], _ => rfl
  have b1 := F1.binds (ps := ["script"]) fun _ _ _ _ _ _ us hl => match us, hl with | [_], _ => rfl
  have b2 := F2.binds (ps := []) fun _ _ _ _ _ _ us hl => match us, hl with | [], _ => rfl
  have b3 := F3.binds (ps := ["hand", "most"]) fun _ _ _ _ _ _ us hl => match us, hl with | [_, _], _ => rfl
  have b4 := F4.binds (ps := ["hand", "limit"]) fun _ _ _ _ _ _ us hl => match us, hl with | [_, _], _ => rfl
  have b5 := F5.binds (ps := ["hand", "limit"]) fun _ _ _ _ _ _ us hl => match us, hl with | [_, _], _ => rfl
  have b6 := F6.binds (ps := ["library", "kind"]) fun _ _ _ _ _ _ us hl => match us, hl with | [_, _], _ => rfl
  have b7 := F7.binds (ps := ["hand", "library", "around", "kind", "budget"]) fun _ _ _ _ _ _ us hl => match us, hl with | [_, _, _, _, _], _ => rfl
  have b8 := F8.binds (ps := ["hand"]) fun _ _ _ _ _ _ us hl => match us, hl with | [_], _ => rfl
  have b9 := F9.binds (ps := ["hand", "library", "deep", "thing"]) fun _ _ _ _ _ _ us hl => match us, hl with | [_, _, _, _], _ => rfl
  have b10 := F10.binds (ps := ["wish", "library", "thing"]) fun _ _ _ _ _ _ us hl => match us, hl with | [_, _, _], _ => rfl
  have b11 := F11.binds (ps := ["wish", "thing"]) fun _ _ _ _ _ _ us hl => match us, hl with | [_, _], _ => rfl
  have b12 := F12.binds (ps := ["wish", "thing"]) fun _ _ _ _ _ _ us hl => match us, hl with | [_, _], _ => rfl
  have b13 := F13.binds (ps := ["hand"]) fun _ _ _ _ _ _ us hl => match us, hl with | [_], _ => rfl
  have b14 := F14.binds (ps := ["thing", "least", "most"]) fun _ _ _ _ _ _ us hl => match us, hl with | [_, _, _], _ => rfl
  have b15 := F15.binds (ps := ["thing"]) fun _ _ _ _ _ _ us hl => match us, hl with | [_], _ => rfl
  have b16 := F16.binds (ps := ["thing"]) fun _ _ _ _ _ _ us hl => match us, hl with | [_], _ => rfl
  have b17 := F17.binds (ps := ["its", "kind"]) fun _ _ _ _ _ _ us hl => match us, hl with | [_, _], _ => rfl
  have b18 := F18.binds (ps := ["hand", "things"]) fun _ _ _ _ _ _ us hl => match us, hl with | [_, _], _ => rfl
  have b19 := F19.binds (ps := ["hand"]) fun _ _ _ _ _ _ us hl => match us, hl with | [_], _ => rfl
  have b20 := F20.binds (ps := ["library", "thing"]) fun _ _ _ _ _ _ us hl => match us, hl with | [_, _], _ => rfl
  have b21 := F21.binds (ps := ["told", "due"]) fun _ _ _ _ _ _ us hl => match us, hl with | [_, _], _ => rfl
  have b22 := F22.binds (ps := ["wish", "program"]) fun _ _ _ _ _ _ us hl => match us, hl with | [_, _], _ => rfl
  have b23 := F23.binds (ps := ["names", "thing", "around"]) fun _ _ _ _ _ _ us hl => match us, hl with | [_, _, _], _ => rfl
  have b24 := F24.binds (ps := ["names", "program", "around"]) fun _ _ _ _ _ _ us hl => match us, hl with | [_, _, _], _ => rfl
  have b25 := F25.binds (ps := ["thing", "nested"]) fun _ _ _ _ _ _ us hl => match us, hl with | [_, _], _ => rfl
  have b26 := F26.binds (ps := ["library", "deep", "thing"]) fun _ _ _ _ _ _ us hl => match us, hl with | [_, _, _], _ => rfl
  have b27 := F27.binds (ps := ["library", "around", "thing"]) fun _ _ _ _ _ _ us hl => match us, hl with | [_, _, _], _ => rfl
  have b28 := F28.binds (ps := ["wish", "thing"]) fun _ _ _ _ _ _ us hl => match us, hl with | [_, _], _ => rfl
  have b29 := F29.binds (ps := ["thing"]) fun _ _ _ _ _ _ us hl => match us, hl with | [_], _ => rfl
  have b30 := F30.binds (ps := ["thing", "least", "most"]) fun _ _ _ _ _ _ us hl => match us, hl with | [_, _, _], _ => rfl
  have b31 := F31.binds (ps := ["thing", "word", "many"]) fun _ _ _ _ _ _ us hl => match us, hl with | [_, _, _], _ => rfl
  have b32 := F32.binds (ps := ["kind"]) fun _ _ _ _ _ _ us hl => match us, hl with | [_], _ => rfl
  have b33 := F33.binds (ps := ["thing"]) fun _ _ _ _ _ _ us hl => match us, hl with | [_], _ => rfl
  have b34 := F34.binds (ps := ["thing"]) fun _ _ _ _ _ _ us hl => match us, hl with | [_], _ => rfl
  have b35 := F35.binds (ps := ["thing"]) fun _ _ _ _ _ _ us hl => match us, hl with | [_], _ => rfl
  have b900 := F900.binds (ps := ["self", "library", "kind"]) fun _ _ _ _ _ _ us hl => match us, hl with | [_, _, _], _ => rfl
  have b901 := F901.binds (ps := ["self", "library", "kind"]) fun _ _ _ _ _ _ us hl => match us, hl with | [_, _, _], _ => rfl
  have M : Top K mg _ f1 f2 f3 f4 f5 f6 f7 f8 f9 f10 f11 f12 f13 f14 f15 f16 f17 f18 f19 f20 f21 f22 f23 f24 f25 f26 f27 f28 f29 f30 f31 f32 f33 f34 f35 x0 y0 x1 y1 xb f900 f901 xW _ _ _ _ _ _ _ _ _ _ _ _ _ _ _ _ _ _ _ _ _ _ _ _ _ _ _ _ _ _ _ _ _ _ _ _ _ _ := ⟨F0, b0, k0, F1, b1, k1, F2, b2, k2, F3, b3, k3, F4, b4, k4, F5, b5, k5, F6, b6, k6, F7, b7, k7, F8, b8, k8, F9, b9, k9, F10, b10, k10, F11, b11, k11, F12, b12, k12, F13, b13, k13, F14, b14, k14, F15, b15, k15, F16, b16, k16, F17, b17, k17, F18, b18, k18, F19, b19, k19, F20, b20, k20, F21, b21, k21, F22, b22, k22, F23, b23, k23, F24, b24, k24, F25, b25, k25, F26, b26, k26, F27, b27, k27, F28, b28, k28, F29, b29, k29, F30, b30, k30, F31, b31, k31, F32, b32, k32, F33, b33, k33, F34, b34, k34, F35, b35, k35, F900, b900, F901, b901, ⟨wm1, wm2, wm3, wm4⟩, ⟨⟨axW, ⟨wc1, wc2, wc3, wc4⟩, wc5, wc6, wc7, wc8, fun t ht => by
    simp only [List.mem_cons, List.not_mem_nil, or_false] at ht
    rcases ht with rfl | rfl | rfl | rfl | rfl | rfl
    · exact kit_ref wk1 (by decide +kernel)
    · exact kit_ref wk2 (by decide +kernel)
    · exact kit_ref wk3 (by decide +kernel)
    · exact kit_ref wk4 (by decide +kernel)
    · exact kit_ref wk5 (by decide +kernel)
    · exact kit_ref wk6 (by decide +kernel)⟩, wn1, wn2, wn3⟩, ⟨wf1, wf2, wf3⟩, ⟨ww1, ww2, fun t ht => by
    simp only [List.mem_cons, List.not_mem_nil, or_false] at ht
    rcases ht with rfl | rfl | rfl | rfl | rfl | rfl | rfl
    · exact wt0
    · exact wt1
    · exact wt2
    · exact wt3
    · exact wt4
    · exact wt5
    · exact wt6⟩, PySem.W.mg_of X G axW, PySem.W.mg_of X G a__law_hand, PySem.W.mg_of X G a__law_is_known_right, PySem.W.mg_of X G a__law_library, PySem.W.mg_of X G a__law_kind, PySem.W.mg_of X G a__law_draw, PySem.W.mg_of X G a_wrong_part, PySem.W.mg_of X G a__law_made, PySem.W.mg_of X G a__law_deep_thing, PySem.W.mg_of X G a__law_spoiled, PySem.W.mg_of X G a__law_is_judged, PySem.W.mg_of X G a__law_told, PySem.W.mg_of X G a_is_program, PySem.W.mg_of X G a__law_atom, PySem.W.mg_of X G a_is_tuple, PySem.W.mg_of X G a_is_name, PySem.W.mg_of X G a_is_kind, PySem.W.mg_of X G a__law_drops, PySem.W.mg_of X G a__law_some, PySem.W.mg_of X G a__law_wild, PySem.W.mg_of X G a__law_due, PySem.W.mg_of X G a__law_is, PySem.W.mg_of X G a_kind_of, PySem.W.mg_of X G a_has_form, PySem.W.mg_of X G a_kind_in, PySem.W.mg_of X G a_atoms_in, PySem.W.mg_of X G a__law_has_form, PySem.W.mg_of X G a__law_kindd, PySem.W.mg_of X G a_check_form, PySem.W.mg_of X G a_is_integer, PySem.W.mg_of X G a_is_within, PySem.W.mg_of X G a_is_called, PySem.W.mg_of X G a_is_atom, PySem.W.mg_of X G a__law_is_kind, PySem.W.mg_of X G a__law_deep_of, PySem.W.mg_of X G a__law_is_name, PySem.W.mg_of X G a_law, X0, PySem.W.mg_of X G ax0, X1, PySem.W.mg_of X G ax1, ⟨⟨s0_1, fun _ => d0_1⟩, ⟨⟨s1_1, fun z => nomatch z⟩, True.intro⟩⟩, PySem.W.mg_of X G axb, cfb, ⟨⟨sb0, fun z => nomatch z⟩, ⟨⟨sb1, fun z => nomatch z⟩, True.intro⟩⟩, PySem.W.mg_none_of X G z_ValueError, PySem.W.mg_none_of X G z_abs, PySem.W.mg_none_of X G z_all, PySem.W.mg_none_of X G z_bool, PySem.W.mg_none_of X G z_dict, PySem.W.mg_none_of X G z_enumerate, PySem.W.mg_none_of X G z_int, PySem.W.mg_none_of X G z_isinstance, PySem.W.mg_none_of X G z_len, PySem.W.mg_none_of X G z_list, PySem.W.mg_none_of X G z_max, PySem.W.mg_none_of X G z_min, PySem.W.mg_none_of X G z_range, PySem.W.mg_none_of X G z_repr, PySem.W.mg_none_of X G z_str, PySem.W.mg_none_of X G z_tuple, ⟨_, PySem.W.mg_of X G v_MOST_NAMES⟩, ⟨_, PySem.W.mg_of X G v_MOST_LETTERS⟩, ⟨_, PySem.W.mg_of X G v_LETTERS⟩, ⟨_, PySem.W.mg_of X G v_MOST_NESTED⟩, ⟨_, PySem.W.mg_of X G v_MOST_ATOMS⟩, ⟨_, PySem.W.mg_of X G v_FUN⟩, ⟨_, PySem.W.mg_of X G v_USE⟩⟩
  exact ⟨_, (CL x0 x1), [], fun s v => .of_eq rfl, (fun p hp => by cases hp), (fun p hp => by cases hp), fun base _ _ HB => (calls (w := w) (base := base) (W := 2000) M  220 220 (Nat.le_refl _)).c0⟩
end Law
namespace Dn
open PySem Dn
/-! ### what can be shown -/
def Shw (Z D : Nat) (d : PyData) : Prop := d.showable = true ∧ noDs d = true ∧ zz d ≤ Z ∧ d.depth ≤ D
theorem Shw.le {Z D Z' D' : Nat} {d : PyData} (h : Shw Z D d) (hz : Z ≤ Z') (hd : D ≤ D') : Shw Z' D' d := ⟨h.1, h.2.1, Nat.le_trans h.2.2.1 hz, Nat.le_trans h.2.2.2 hd⟩
theorem Shw.shown {Z D : Nat} {d : PyData} (h : Shw Z D d) (hz : Z ≤ 16777216) (hd : D ≤ 96) : bltD .repr [d] = some (.val (.str d.shown)) := by
  have a := shown_zz d
  exact if_pos ⟨h.1, h.2.1, by rw [szl_eq]; show d.shown.length ≤ 16777216; have := h.2.2.1; omega, by have := h.2.2.2; omega⟩
theorem sh_int {n : Int} (h : n.natAbs ≤ 1000000) : (PyData.int n).showable = true := by
  show decide (n.natAbs.log2 < 1920) = true
  refine decide_eq_true ?_
  have : n.natAbs.log2 ≤ n.natAbs := Nat.log2_le_self _
  by_cases c : n.natAbs = 0
  · rw [c]; decide
  · exact (Nat.log2_lt c).mpr (Nat.lt_of_le_of_lt h (by
      have : 2 ^ 20 ≤ 2 ^ 1920 := Nat.pow_le_pow_right (by omega) (by omega)
      have e : 2 ^ 20 = 1048576 := rfl
      omega))
theorem pu_shw : ∀ {t : Th}, t.pu → t.d.showable = true ∧ noDs t.d = true
  | .a s, _ => ⟨rfl, rfl⟩
  | .f l r, h => by
    obtain ⟨a, b⟩ := pu_shw h.1
    obtain ⟨c, d⟩ := pu_shw h.2
    refine ⟨?_, ?_⟩
    · show (l.d.showable && (r.d.showable && true)) = true
      rw [a, c]; rfl
    · show (noDs l.d && (noDs r.d && true)) = true
      rw [b, d]; rfl
/-- of a program -/
theorem has_shw {N : List Str} : ∀ {p : Pg} {m : Nat}, p.ok 5 → has N p m = true → m + p.h ≤ 1000 → Shw (zz p.d) (p.h + 5) p.d
  | .s x, m, ho, hh, hm => ⟨rfl, rfl, Nat.le_refl _, by show 0 ≤ _; omega⟩
  | .i n, m, ho, hh, hm => by
    have := of_decide_eq_true (show decide (0 ≤ n ∧ n < (m : Int)) = true from hh)
    exact ⟨sh_int (by omega), rfl, Nat.le_refl _, by show 0 ≤ _; omega⟩
  | .o d, m, ho, hh, hm => by cases hh
  | .f k b, m, ho, hh, hm => by
    have hh : (k.kd && has N b (m + 1)) = true := hh
    rw [Bool.and_eq_true] at hh
    have hm : m + (b.h + 1) ≤ 1000 := hm
    obtain ⟨b1, b2, b3, b4⟩ := has_shw ho.2.2.2 hh.2 (by omega)
    obtain ⟨kp, kh⟩ := ho.2.1 hh.1
    obtain ⟨k1, k2⟩ := pu_shw kp
    have k3 := Th.pu_depth kp
    refine ⟨?_, ?_, Nat.le_refl _, ?_⟩
    · show (true && (k.d.showable && (b.d.showable && true))) = true
      rw [k1, b1]; rfl
    · show (true && (noDs k.d && (noDs b.d && true))) = true
      rw [k2, b2]; rfl
    · show max 0 (max k.d.depth (max b.d.depth 0)) + 1 ≤ b.h + 1 + 5
      omega
  | .u a b, m, ho, hh, hm => by
    have hh : (has N a m && has N b m) = true := hh
    rw [Bool.and_eq_true] at hh
    have hm : m + (max a.h b.h + 1) ≤ 1000 := hm
    obtain ⟨a1, a2, a3, a4⟩ := has_shw ho.1 hh.1 (by omega)
    obtain ⟨b1, b2, b3, b4⟩ := has_shw ho.2 hh.2 (by omega)
    refine ⟨?_, ?_, Nat.le_refl _, ?_⟩
    · show (true && (a.d.showable && (b.d.showable && true))) = true
      rw [a1, b1]; rfl
    · show (true && (noDs a.d && (noDs b.d && true))) = true
      rw [a2, b2]; rfl
    · show max 0 (max a.d.depth (max b.d.depth 0)) + 1 ≤ max a.h b.h + 1 + 5
      omega
/-- what may be asked about -/
def Sp (H Z D : Nat) (q : Pg) : Prop := q.ok 5 ∧ q.h ≤ H ∧ Shw Z D q.d
theorem Sp.le {H Z D H' Z' D' : Nat} {q : Pg} (h : Sp H Z D q) (hh : H ≤ H') (hz : Z ≤ Z') (hd : D ≤ D') : Sp H' Z' D' q := ⟨h.1, Nat.le_trans h.2.1 hh, h.2.2.le hz hd⟩
theorem Sp.fun {H Z D zk dk : Nat} {q : Pg} {k : Th} (h : Sp H Z D q) (hk : k.ok) (kk : k.kd = true → k.pu ∧ k.h ≤ 5) (kh : k.h ≤ 60) (ks : Shw zk dk k.d) : Sp (H + 1) (zk + Z + 14) (max dk D + 1) (.f k q) := by
  obtain ⟨h1, h2, h3, h4, h5, h6⟩ := h
  obtain ⟨k3, k4, k5, k6⟩ := ks
  refine ⟨⟨hk, kk, kh, h1⟩, Nat.succ_le_succ h2, ?_, ?_, ?_, ?_⟩
  · show (true && (k.d.showable && (q.d.showable && true))) = true
    rw [k3, h3]; rfl
  · show (true && (noDs k.d && (noDs q.d && true))) = true
    rw [k4, h4]; rfl
  · rw [K0.z_f]
    omega
  · show max 0 (max k.d.depth (max q.d.depth 0)) + 1 ≤ _
    omega
theorem Sp.use {H Z D H' Z' D' : Nat} {p q : Pg} (h : Sp H Z D p) (g : Sp H' Z' D' q) : Sp (max H H' + 1) (Z + Z' + 14) (max D D' + 1) (.u p q) := by
  obtain ⟨h1, h2, h3, h4, h5, h6⟩ := h
  obtain ⟨k1, k2, k3, k4, k5, k6⟩ := g
  refine ⟨⟨h1, k1⟩, by show max p.h q.h + 1 ≤ _; omega, ?_, ?_, ?_, ?_⟩
  · show (true && (p.d.showable && (q.d.showable && true))) = true
    rw [k3, h3]; rfl
  · show (true && (noDs p.d && (noDs q.d && true))) = true
    rw [k4, h4]; rfl
  · rw [K0.z_u]
    omega
  · show max 0 (max p.d.depth (max q.d.depth 0)) + 1 ≤ _
    omega
/-- rows of things -/
def ShwA (Z D : Nat) (l : List PyData) : Prop := PyData.showableAll l = true ∧ noDsA l = true ∧ zzA l ≤ Z ∧ PyData.depthAll l ≤ D
theorem ShwA.nil : ShwA 0 0 [] := ⟨rfl, rfl, Nat.le_refl _, Nat.le_refl _⟩
theorem ShwA.cons {Z D Z' D' : Nat} {d : PyData} {l : List PyData} (h : Shw Z D d) (g : ShwA Z' D' l) : ShwA (Z + 2 + Z') (max D D') (d :: l) := by
  obtain ⟨h3, h4, h5, h6⟩ := h
  obtain ⟨k3, k4, k5, k6⟩ := g
  refine ⟨?_, ?_, ?_, ?_⟩
  · show (d.showable && PyData.showableAll l) = true
    rw [k3, h3]; rfl
  · show (noDs d && noDsA l) = true
    rw [k4, h4]; rfl
  · show zz d + 2 + zzA l ≤ _
    omega
  · show max d.depth (PyData.depthAll l) ≤ _
    omega
theorem ShwA.tup {Z D : Nat} {l : List PyData} (h : ShwA Z D l) : Shw (Z + 3) (D + 1) (.tuple l) := ⟨h.1, h.2.1, Nat.succ_le_succ (Nat.succ_le_succ (Nat.succ_le_succ h.2.2.1)), Nat.succ_le_succ h.2.2.2⟩
theorem ShwA.lst {Z D : Nat} {l : List PyData} (h : ShwA Z D l) : Shw (Z + 3) (D + 1) (.list l) := ⟨h.1, h.2.1, Nat.succ_le_succ (Nat.succ_le_succ (Nat.succ_le_succ h.2.2.1)), Nat.succ_le_succ h.2.2.2⟩
theorem shw_c {d : PyData} (h : (d.showable && (noDs d && (decide (zz d ≤ 25) && decide (d.depth ≤ 1)))) = true) : Shw 25 1 d := by
  simp only [Bool.and_eq_true, decide_eq_true_eq] at h
  exact h
/-- no kind, of whatever it is -/
def Wk (m Z D : Nat) (t : Th) : Prop := t.ok ∧ t.deep = none ∧ t.h ≤ m ∧ Shw Z D t.d
theorem Wk.kd {m Z D : Nat} {t : Th} (h : Wk m Z D t) : t.kd = false := by
  unfold Dn.Th.kd
  rw [h.2.1]
  rfl
end Dn
namespace Law
open PySem Dn Dn.K0
theorem HK : HasKind T 16 := ⟨25, 15, 14, T_16, T_25, T_15, T_14⟩
theorem HS : HasSome T 18 := ⟨5, T_18, T_5⟩
theorem HA : HasAtom T 13 := ⟨18, T_13, HS⟩
theorem HD : HasKindD T 4 := ⟨5, 13, T_4, T_5, HA⟩
theorem HL : HasLawKind T 33 := ⟨34, 35, T_33, T_34, T_35⟩
theorem HF : HasF T 23 := ⟨29, 30, 31, 16, 14, T_23, T_29, T_30, T_31, T_14, HK⟩
theorem HKi : HasK T 24 := ⟨29, 32, T_24, T_29, T_32⟩
theorem HT : HasTold T 11 := ⟨1, 22, 28, 24, 23, T_11, T_22, T_28, HF, HKi⟩
theorem HLF : HasLF T 26 := ⟨33, T_26, HL⟩
theorem HLK : HasLK T 27 := ⟨T_27⟩
theorem HU : HasDue T 20 := ⟨26, 27, T_20, HLF, HLK⟩
section
variable {k : Nat}
theorem wrong {m : Nat} {L : Lb} {K : Th} (hL : L.ok m) (hK : K.ok) (hk : 19 ≤ k) : callF 2000 T k 6 [.val L.d, .val K.d] = .ok (.val (whole L K)) [.val L.d, .val K.d] :=
  wrongPart (i := 6) (tu := 14) (n := 15) (q := 16) T_6 T_14 T_15 HK hL hK hk
theorem lowW {l : List (Str × Th)} {K : Th} (h : GoodL l) (hk : K.kd = true) (ho : K.ok) : callF 2000 T 217 6 [.val (.tuple (prS (dl l))), .val K.d] = .ok (.val .none) [.val (.tuple (prS (dl l))), .val K.d] := by
  have e := wrong (k := 217) h.lb ho (by omega)
  rw [itS_d, h.whole hk] at e
  exact e
theorem mk {L : List (Str × Th)} (hL : LibDr L) : IHyp 2000 T 7 219 L 200 := made (W := 2000) (T := T) (own := 7) (dr := 5) (so := 18) (ki := 4) (dp := 17) T_7 T_5 HS HD T_17 hL (by omega) 200 219 (by omega)

theorem oth_s {s : Str} (h : nm s = false) (h2 : s.length ≤ 16777216) : NoKind (.str s) := ⟨rfl, fun u e => by cases e; exact ⟨h, h2⟩⟩
theorem oth_o {d : PyData} (h : is2 d = false) (h2 : isTy d .str = false) : NoKind d := ⟨h, fun u e => by subst e; cases h2⟩
theorem nm_a : (Dn.Th.a "a").ok ∧ (Dn.Th.a "a").pu := ⟨by show nm "a" = true; kernel_rfl, by show PyData.strOk "a" = true; decide +kernel⟩
theorem a_dr : K0.Th.dr (.a "a") := by simp [K0.Th.dr, drawn]
theorem z_a : Shw 3 0 (.str "a") := ⟨rfl, rfl, by decide +kernel, Nat.le_refl _⟩
/-! ### what is no kind, nested -/
def wilds (d : PyData) : List PyData := [.tuple [d, .str "a"], .tuple [.str "a", d], .list [d], .tuple [d]]
def WkD (m Z D : Nat) (d : PyData) : Prop := ∃ t : Th, d = t.d ∧ Wk m Z D t
theorem deep2_n {p : Option (Nat × Nat)} : deep2 p none = none := by cases p <;> rfl
theorem wilds_wk {m Z D : Nat} {d x : PyData} (h : WkD m Z D d) (hx : x ∈ wilds d) : WkD (m + 1) (Z + 10) (D + 1) x := by
  obtain ⟨t, rfl, h1, h2, h3, h4⟩ := h
  unfold wilds at hx
  simp only [List.mem_cons, List.not_mem_nil, or_false] at hx
  rcases hx with rfl | rfl | rfl | rfl
  · refine ⟨.f t (.a "a"), rfl, ⟨h1, nm_a.1⟩, ?_, ?_, ?_⟩
    · show deep2 t.deep _ = none
      rw [h2]; rfl
    · show max t.h 0 + 1 ≤ _
      omega
    · exact (ShwA.cons h4 (ShwA.cons z_a ShwA.nil)).tup.le (by omega) (by omega)
  · refine ⟨.f (.a "a") t, rfl, ⟨nm_a.1, h1⟩, ?_, ?_, ?_⟩
    · show deep2 _ t.deep = none
      rw [h2]; rfl
    · show max 0 t.h + 1 ≤ _
      omega
    · exact (ShwA.cons z_a (ShwA.cons h4 ShwA.nil)).tup.le (by omega) (by omega)
  · exact ⟨.o (.list [t.d]), rfl, oth_o rfl rfl, rfl, Nat.zero_le _, (ShwA.cons h4 ShwA.nil).lst.le (by omega) (by omega)⟩
  · exact ⟨.o (.tuple [t.d]), rfl, oth_o rfl rfl, rfl, Nat.zero_le _, (ShwA.cons h4 ShwA.nil).tup.le (by omega) (by omega)⟩
def WildI (j : Nat) (ρ : Dn.Env) : Prop := ∃ h x y, Hd h ∧ WkD j (25 + 10 * j) (1 + j) x ∧ ρ = [.own h, .val x, y]
theorem wild0 {x : PyData} (h : x ∈ [PyData.none, .int 0, .tuple [], .str "", .str "A", .bool true, .dict []]) : WkD 0 25 1 x := by
  simp only [List.mem_cons, List.not_mem_nil, or_false] at h
  rcases h with rfl | rfl | rfl | rfl | rfl | rfl | rfl
  · exact ⟨.o .none, rfl, oth_o rfl rfl, rfl, Nat.le_refl _, shw_c (by decide +kernel)⟩
  · exact ⟨.o (.int 0), rfl, oth_o rfl rfl, rfl, Nat.le_refl _, shw_c (by decide +kernel)⟩
  · exact ⟨.o (.tuple []), rfl, oth_o rfl rfl, rfl, Nat.le_refl _, shw_c (by decide +kernel)⟩
  · exact ⟨.o (.str ""), rfl, oth_s (by kernel_rfl) (by decide +kernel), rfl, Nat.le_refl _, shw_c (by decide +kernel)⟩
  · exact ⟨.o (.str "A"), rfl, oth_s (by kernel_rfl) (by decide +kernel), rfl, Nat.le_refl _, shw_c (by decide +kernel)⟩
  · exact ⟨.o (.bool true), rfl, oth_o rfl rfl, rfl, Nat.le_refl _, shw_c (by decide +kernel)⟩
  · exact ⟨.o (.dict []), rfl, oth_o rfl rfl, rfl, Nat.le_refl _, shw_c (by decide +kernel)⟩
theorem wild {h : PyData} (hh : Hd h) (hk : 3 ≤ k) : ∃ t h', Wk 44 470 45 t ∧ Hd h' ∧ callF 2000 T k 19 [.own h] = .ok (.val t.d) [.own h'] := by
  obtain ⟨k, rfl⟩ : ∃ j, k = j + 1 := ⟨k - 1, by omega⟩
  obtain ⟨x0, h1, hx0, hh1, e0⟩ := some' (W := 2000) (k := k) (i := 18) (l := [.none, .int 0, .tuple [], .str "", .str "A", .bool true, .dict []]) HS hh (by simp) (by simp) (by omega)
  obtain ⟨n, h2, hn, hh2, e1⟩ := draw (W := 2000) (k := k) (i := 5) (lim := 45) T_5 hh1 (by omega) (by omega) (by omega)
  have rg := range_nat (n := n) (by omega)
  obtain ⟨ρ', f, h', x, y, hh', hx, rfl⟩ := for_run (W := 2000) (md := [true]) (en := enK 2000 T k .stuck) (tg := .n 2) (ss := [.set 1 (.call 18 [.v 0, .lst [.tup [.v 1, .c (.str "a")], .tup [.c (.str "a"), .v 1], .lst [.v 1], .tup [.v 1]]])])
    WildI (n := 0) (ds := (List.range n).map fun (j : Nat) => PyData.int (j : Int)) (ρ := [.own h2, .val x0, .un]) ⟨h2, x0, .un, hh2, wild0 hx0, rfl⟩ fun j d ρ _ i => by
      obtain ⟨h, x, y, hh, hx, rfl⟩ := i
      obtain ⟨x2, h2, hx2, hh2, e⟩ := some' (W := 2000) (k := k) (i := 18) (l := wilds x) HS hh (by simp [wilds]) (by simp [wilds]) (by omega)
      unfold wilds at e
      refine ⟨[.own h, .val x, .val d], by simp, [.own h2, .val x2, .val d], ?_, h2, x2, _, hh2, ?_, rfl⟩
      · simp -implicitDefEqProofs [fd18, e]
      · obtain ⟨t, q1, q2, q3, q4, q5⟩ := wilds_wk hx hx2
        exact ⟨t, q1, q2, q3, by omega, q5.le (by omega) (by omega)⟩
  obtain ⟨t, rfl, t1, t2, t3, t4⟩ := hx
  simp only [List.length_map, List.length_range] at t3 t4
  refine ⟨t, h', ⟨t1, t2, by omega, t4.le (by omega) (by omega)⟩, hh', ?_⟩
  rw [callF_eq T_19 rfl]
  simp -implicitDefEqProofs [fd19, b19, fd18, fd5, e0, e1, rg, f]
/-! ### what is no program, nested -/
def Zd : Nat → Nat
  | 0 => 25
  | j + 1 => if j < 4 then 2 * Zd j + 20 else Zd j + 40
theorem zd_mono : ∀ {i j : Nat}, i ≤ j → Zd i ≤ Zd j
  | i, 0, h => by have : i = 0 := by omega
                  subst this; exact Nat.le_refl _
  | i, j + 1, h => by
    by_cases c : i = j + 1
    · subst c; exact Nat.le_refl _
    · have := zd_mono (i := i) (j := j) (by omega)
      show Zd i ≤ if j < 4 then 2 * Zd j + 20 else Zd j + 40
      split <;> omega
def DeepI (j : Nat) (ρ : Dn.Env) : Prop := ∃ (h : PyData) (q : Pg) (x2 x3 : Slot), Hd h ∧ Sp j (Zd j) (1 + j) q ∧ ρ = [.own h, .val q.d, x2, x3]
theorem nopg {d : PyData} (h : (isTy d .str || (isInt d || (isCalled "fun" d || isCalled "use" d))) = false) : NoPg d := by
  simp only [Bool.or_eq_false_iff] at h
  exact h
theorem deep0 {x : PyData} (h : x ∈ [PyData.none, .tuple [], .str "F", .int (-1), .bool true, .list [.int 0], .dict []]) : ∃ q : Pg, x = q.d ∧ Sp 0 25 1 q := by
  simp only [List.mem_cons, List.not_mem_nil, or_false] at h
  rcases h with rfl | rfl | rfl | rfl | rfl | rfl | rfl
  · exact ⟨.o .none, rfl, nopg (by kernel_rfl), Nat.le_refl _, shw_c (by decide +kernel)⟩
  · exact ⟨.o (.tuple []), rfl, nopg (by kernel_rfl), Nat.le_refl _, shw_c (by decide +kernel)⟩
  · exact ⟨.s "F", rfl, True.intro, Nat.le_refl _, shw_c (by decide +kernel)⟩
  · exact ⟨.i (-1), rfl, True.intro, Nat.le_refl _, shw_c (by decide +kernel)⟩
  · exact ⟨.o (.bool true), rfl, nopg (by kernel_rfl), Nat.le_refl _, shw_c (by decide +kernel)⟩
  · exact ⟨.o (.list [.int 0]), rfl, nopg (by kernel_rfl), Nat.le_refl _, shw_c (by decide +kernel)⟩
  · exact ⟨.o (.dict []), rfl, nopg (by kernel_rfl), Nat.le_refl _, shw_c (by decide +kernel)⟩
theorem a_kd : (Dn.Th.a "a").kd = true := by kernel_rfl
theorem Sp.funa {H Z D : Nat} {q : Pg} (h : Sp H Z D q) : Sp (H + 1) (Z + 17) (D + 1) (.f (.a "a") q) := (Sp.fun h nm_a.1 (fun _ => ⟨nm_a.2, by decide⟩) (by decide) z_a).le (Nat.le_refl _) (by omega) (by omega)
theorem sp_i {n : Nat} (h : n ≤ 2000) : Sp 0 10 0 (.i (n : Nat)) := ⟨True.intro, Nat.le_refl _, sh_int (by omega), rfl, int_z (by omega), Nat.le_refl _⟩
theorem deep_next {j : Nat} {q : Pg} {x : PyData} (h : Sp j (Zd j) (1 + j) q) (hx : x ∈ [PyData.tuple [.str "fun", .str "a", q.d], if j < 4 then .tuple [.str "use", q.d, q.d] else .tuple [.str "use", q.d, .int 0], .list [q.d]]) : ∃ q' : Pg, x = q'.d ∧ Sp (j + 1) (Zd (j + 1)) (1 + (j + 1)) q' := by
  have z : Zd (j + 1) = if j < 4 then 2 * Zd j + 20 else Zd j + 40 := rfl
  have z0 : 25 ≤ Zd j := zd_mono (Nat.zero_le j)
  have l1 : Zd j + 40 ≤ Zd (j + 1) := by rw [z]; split <;> omega
  simp only [List.mem_cons, List.not_mem_nil, or_false] at hx
  rcases hx with rfl | rfl | rfl
  · exact ⟨.f (.a "a") q, rfl, (Sp.funa h).le (Nat.le_refl _) (by omega) (by omega)⟩
  · by_cases c : j < 4
    · rw [if_pos c]
      rw [if_pos c] at z
      exact ⟨.u q q, rfl, (h.use h).le (by omega) (by omega) (by omega)⟩
    · rw [if_neg c]
      exact ⟨.u q (.i 0), rfl, (h.use (sp_i (n := 0) (by omega))).le (by omega) (by omega) (by omega)⟩
  · exact ⟨.o (.list [q.d]), rfl, nopg rfl, Nat.zero_le _, (ShwA.cons h.2.2 ShwA.nil).lst.le (by omega) (by omega)⟩
theorem zd49 : Zd 49 ≤ 3000 := by decide
theorem deepThing {h : PyData} (hh : Hd h) (hk : 3 ≤ k) : ∃ q h', Sp 49 3000 50 q ∧ Hd h' ∧ callF 2000 T k 8 [.own h] = .ok (.val q.d) [.own h'] := by
  obtain ⟨k, rfl⟩ : ∃ j, k = j + 1 := ⟨k - 1, by omega⟩
  obtain ⟨x0, h1, hx0, hh1, e0⟩ := some' (W := 2000) (k := k) (i := 18) (l := [.none, .tuple [], .str "F", .int (-1), .bool true, .list [.int 0], .dict []]) HS hh (by simp) (by simp) (by omega)
  obtain ⟨q0, rfl, s0⟩ := deep0 hx0
  obtain ⟨n, h2, hn, hh2, e1⟩ := draw (W := 2000) (k := k) (i := 5) (lim := 50) T_5 hh1 (by omega) (by omega) (by omega)
  have rg := range_nat (n := n) (by omega)
  obtain ⟨ρ', f, h', q, y2, y3, hh', hq, rfl⟩ := for_run (W := 2000) (md := [true]) (en := enK 2000 T k .stuck) (tg := .n 2) (ss := [.set 3 (.ite (.cmp .lt (.v 2) (.c (.int 4))) (.tup [.c (.str "use"), .v 1, .v 1]) (.tup [.c (.str "use"), .v 1, .c (.int 0)])),
    .set 1 (.call 18 [.v 0, .lst [.tup [.c (.str "fun"), .c (.str "a"), .v 1], .v 3, .lst [.v 1]]])])
    DeepI (n := 0) (ds := (List.range n).map fun (j : Nat) => PyData.int (j : Int)) (ρ := [.own h2, .val q0.d, .un, .un]) ⟨h2, q0, .un, .un, hh2, s0, rfl⟩ fun j d ρ hd i => by
      obtain ⟨h, q, y2, y3, hh, hq, rfl⟩ := i
      obtain ⟨rfl⟩ : PyData.int (j : Nat) = d := by
        rw [List.getElem?_map] at hd
        obtain ⟨j', hj, rfl⟩ := Option.map_eq_some_iff.mp hd
        rw [List.getElem?_range (by
          have := (List.getElem?_eq_some_iff.mp hj).1
          simpa using this)] at hj
        cases hj
        rfl
      rw [Nat.zero_add] at hq ⊢
      obtain ⟨x2, h2, hx2, hh2, e⟩ := some' (W := 2000) (k := k) (i := 18) (l := [PyData.tuple [.str "fun", .str "a", q.d], if j < 4 then .tuple [.str "use", q.d, q.d] else .tuple [.str "use", q.d, .int 0], .list [q.d]]) HS hh (by simp) (by simp) (by omega)
      obtain ⟨q', rfl, sq⟩ := deep_next hq hx2
      refine ⟨[.own h, .val q.d, .val (.int (j : Nat)), y3], by simp, [.own h2, .val q'.d, .val (.int (j : Nat)), .val (if j < 4 then .tuple [.str "use", q.d, q.d] else .tuple [.str "use", q.d, .int 0])], ?_, h2, q', _, _, hh2, sq, rfl⟩
      by_cases c : j < 4
      · have c2 : (j : Int) < 4 := by omega
        rw [if_pos c] at e ⊢
        simp -implicitDefEqProofs [fd18, c2, e]
      · have c2 : ¬ (j : Int) < 4 := by omega
        rw [if_neg c] at e ⊢
        simp -implicitDefEqProofs [fd18, c2, e]
  simp only [List.length_map, List.length_range] at hq
  have zl := zd_mono (i := 0 + n) (j := 49) (by omega)
  have z49 := zd49
  refine ⟨q, h', hq.le (by omega) (by omega) (by omega), hh', ?_⟩
  rw [callF_eq T_8 rfl]
  simp -implicitDefEqProofs [fd8, b8, fd18, fd5, e0, e1, rg, f]
end
end Law
namespace Law
open PySem Dn Dn.K0
/-! ### spoiled programs -/
abbrev big : Int := 10000000000000000000
def sps (m : Nat) (p : Pg) (w : Th) : List Pg := [.i (m : Int), .i (-1), .i ((m + 1 : Nat) : Int), .o (.bool true), .o (.bool false), .o .none, .s "", .s "noname", .s "F", .o (.tuple []), .o (.tuple [.str "fun"]), .o (.tuple [.str "use"]), .o (.list [p.d]), .o (.dict []), .o (.tuple [p.d]),
  .o (.tuple [.str "fun", .str "a"]), .o (.tuple [.str "fun", .str "a", p.d, .int 0]), .o (.tuple [.str "use", p.d]), .o (.tuple [.str "use", p.d, p.d, p.d]),
  .o (.tuple [.str "Fun", .str "a", p.d]), .f (.o (.str "A")) p, .f (.o .none) p, .f (.o (.tuple [.str "a"])) p,
  .o (.list [.str "use", p.d, p.d]), .o (.tuple [.int 0, .str "a", p.d]), .f w p, .f (.a "a") (.i ((m + 1 : Nat) : Int)),
  .u (.u p (.o .none)) p, .i big, .f (.o (.list [.str "a", .str "a"])) p, .u p (.i (m : Int)),
  .o (.tuple [.none, p.d, p.d]), .s "fun", .s "use"]
theorem sp_o {Z D H : Nat} {d : PyData} (h : Shw Z D d) (n : NoPg d) : Sp H Z D (.o d) := ⟨n, Nat.zero_le _, h⟩
theorem c_use : Shw 25 1 (.str "use") := shw_c (by decide +kernel)
theorem c_fun : Shw 25 1 (.str "fun") := shw_c (by decide +kernel)
theorem c_Fun : Shw 25 1 (.str "Fun") := shw_c (by decide +kernel)
theorem c_a : Shw 25 1 (.str "a") := shw_c (by decide +kernel)
theorem c_n : Shw 25 1 .none := shw_c (by decide +kernel)
theorem c_0 : Shw 25 1 (.int 0) := shw_c (by decide +kernel)
abbrev chk (d : PyData) : Bool := d.showable && (noDs d && (decide (zz d ≤ 25) && decide (d.depth ≤ 1)))
theorem sp_cs {x : Str} (h : chk (.str x) = true) : Sp 0 25 1 (.s x) := ⟨True.intro, Nat.le_refl _, shw_c h⟩
theorem sp_ci {x : Int} (h : chk (.int x) = true) : Sp 0 25 1 (.i x) := ⟨True.intro, Nat.le_refl _, shw_c h⟩
theorem sp_co {d : PyData} (h : chk d = true) (n : (isTy d .str || (isInt d || (isCalled "fun" d || isCalled "use" d))) = false) : Sp 0 25 1 (.o d) := ⟨nopg n, Nat.le_refl _, shw_c h⟩
theorem sp_fk {H Z D zk dk : Nat} {p : Pg} {d : PyData} (h : Sp H Z D p) (n : NoKind d) (s : Shw zk dk d) : Sp (H + 1) (zk + Z + 14) (max dk D + 1) (.f (.o d) p) := Sp.fun h n (fun c => by cases c) (Nat.zero_le _) s
theorem sps_ok {m : Nat} {p : Pg} {w : Th} {q : Pg} (hm : m ≤ 1000) (hp : Sp p.h (zz p.d) (p.h + 5) p) (hw : Wk 44 470 45 w) (hq : q ∈ sps m p w) : Sp (p.h + 2) (3 * zz p.d + 500) (p.h + 46) q := by
  have P := hp.2.2
  have one : ∀ {a : PyData} {Z D : Nat}, Shw Z D a → ShwA (Z + 2 + 0) (max D 0) [a] := fun h => .cons h .nil
  unfold sps at hq
  simp only [List.mem_cons, List.not_mem_nil, or_false] at hq
  rcases hq with rfl | rfl | rfl | rfl | rfl | rfl | rfl | rfl | rfl | rfl | rfl | rfl | rfl | rfl | rfl | rfl | rfl | rfl | rfl | rfl | rfl | rfl | rfl | rfl | rfl | rfl | rfl | rfl | rfl | rfl | rfl | rfl | rfl | rfl
  · exact (sp_i (by omega)).le (by omega) (by omega) (by omega)
  · exact (sp_ci (by decide +kernel)).le (by omega) (by omega) (by omega)
  · exact (sp_i (by omega)).le (by omega) (by omega) (by omega)
  · exact (sp_co (by decide +kernel) (by kernel_rfl)).le (by omega) (by omega) (by omega)
  · exact (sp_co (by decide +kernel) (by kernel_rfl)).le (by omega) (by omega) (by omega)
  · exact (sp_co (by decide +kernel) (by kernel_rfl)).le (by omega) (by omega) (by omega)
  · exact (sp_cs (by decide +kernel)).le (by omega) (by omega) (by omega)
  · exact (sp_cs (by decide +kernel)).le (by omega) (by omega) (by omega)
  · exact (sp_cs (by decide +kernel)).le (by omega) (by omega) (by omega)
  · exact (sp_co (by decide +kernel) (by kernel_rfl)).le (by omega) (by omega) (by omega)
  · exact (sp_co (by decide +kernel) (by kernel_rfl)).le (by omega) (by omega) (by omega)
  · exact (sp_co (by decide +kernel) (by kernel_rfl)).le (by omega) (by omega) (by omega)
  · exact sp_o ((one P).lst.le (by omega) (by omega)) (nopg rfl)
  · exact (sp_co (by decide +kernel) (by kernel_rfl)).le (by omega) (by omega) (by omega)
  · exact sp_o ((one P).tup.le (by omega) (by omega)) (nopg (by generalize p.d = d; cases d <;> rfl))
  · exact (sp_co (by decide +kernel) (by kernel_rfl)).le (by omega) (by omega) (by omega)
  · exact sp_o ((ShwA.cons c_fun (.cons c_a (.cons P (one c_0)))).tup.le (by omega) (by omega)) (nopg rfl)
  · exact sp_o ((ShwA.cons c_use (one P)).tup.le (by omega) (by omega)) (nopg rfl)
  · exact sp_o ((ShwA.cons c_use (.cons P (.cons P (one P)))).tup.le (by omega) (by omega)) (nopg rfl)
  · exact sp_o ((ShwA.cons c_Fun (.cons c_a (one P))).tup.le (by omega) (by omega)) (nopg (by kernel_rfl))
  · exact (sp_fk hp (oth_s (by kernel_rfl) (by decide +kernel)) (shw_c (by decide +kernel))).le (by omega) (by omega) (by omega)
  · exact (sp_fk hp (oth_o rfl rfl) c_n).le (by omega) (by omega) (by omega)
  · exact (sp_fk hp (oth_o rfl rfl) (shw_c (d := .tuple [.str "a"]) (by decide +kernel))).le (by omega) (by omega) (by omega)
  · exact sp_o ((ShwA.cons c_use (.cons P (one P))).lst.le (by omega) (by omega)) (nopg rfl)
  · exact sp_o ((ShwA.cons c_0 (.cons c_a (one P))).tup.le (by omega) (by omega)) (nopg rfl)
  · exact (Sp.fun hp hw.1 (fun c => by rw [hw.kd] at c; cases c) (by have := hw.2.2.1; omega) hw.2.2.2).le (by omega) (by omega) (by omega)
  · exact (Sp.funa (sp_i (n := m + 1) (by omega))).le (by omega) (by omega) (by omega)
  · exact ((hp.use (sp_co (d := .none) (by decide +kernel) (by kernel_rfl))).use hp).le (by omega) (by omega) (by omega)
  · exact (sp_ci (by decide +kernel)).le (by omega) (by omega) (by omega)
  · exact (sp_fk hp (oth_o rfl rfl) (shw_c (d := .list [.str "a", .str "a"]) (by decide +kernel))).le (by omega) (by omega) (by omega)
  · exact (hp.use (sp_i (n := m) (by omega))).le (by omega) (by omega) (by omega)
  · exact sp_o ((ShwA.cons c_n (.cons P (one P))).tup.le (by omega) (by omega)) (nopg rfl)
  · exact (sp_cs (by decide +kernel)).le (by omega) (by omega) (by omega)
  · exact (sp_cs (by decide +kernel)).le (by omega) (by omega) (by omega)
theorem sps_d {m : Nat} {p : Pg} {w : Th} : (sps m p w).map Pg.d = [.int m, .int (-1), .int ((m : Int) + 1), .bool true, .bool false, .none, .str "", .str "noname", .str "F", .tuple [], .tuple [.str "fun"], .tuple [.str "use"], .list [p.d], .dict [], .tuple [p.d]] ++ [.tuple [.str "fun", .str "a"], .tuple [.str "fun", .str "a", p.d, .int 0], .tuple [.str "use", p.d], .tuple [.str "use", p.d, p.d, p.d]]
  ++ [.tuple [.str "Fun", .str "a", p.d], .tuple [.str "fun", .str "A", p.d], .tuple [.str "fun", .none, p.d], .tuple [.str "fun", .tuple [.str "a"], p.d]] ++ [.list [.str "use", p.d, p.d], .tuple [.int 0, .str "a", p.d], .tuple [.str "fun", w.d, p.d], .tuple [.str "fun", .str "a", .int ((m : Int) + 1)]]
  ++ [.tuple [.str "use", .tuple [.str "use", p.d, .none], p.d], .int big, .tuple [.str "fun", .list [.str "a", .str "a"], p.d], .tuple [.str "use", p.d, .int m]] ++ [.tuple [.none, p.d, p.d], .str "fun", .str "use"] := by
  have e : ((m + 1 : Nat) : Int) = (m : Int) + 1 := by omega
  unfold sps
  rw [e]
  rfl
abbrev sP : List MS := [.set 6 (.lst [.v 2, .neg (.c (.int 1)), .bin .add (.v 2) (.c (.int 1)), .c (.bool true), .c (.bool false), .c .none, .c (.str ""), .c (.str "noname"), .c (.str "F"), .tup [], .tup [.c (.str "fun")], .tup [.c (.str "use")], .lst [.v 3], .dnew, .tup [.v 3]]),
    .set 6 (.bin .add (.v 6) (.lst [.tup [.c (.str "fun"), .c (.str "a")], .tup [.c (.str "fun"), .c (.str "a"), .v 3, .c (.int 0)], .tup [.c (.str "use"), .v 3], .tup [.c (.str "use"), .v 3, .v 3, .v 3]])),
    .set 6 (.bin .add (.v 6) (.lst [.tup [.c (.str "Fun"), .c (.str "a"), .v 3], .tup [.c (.str "fun"), .c (.str "A"), .v 3], .tup [.c (.str "fun"), .c .none, .v 3], .tup [.c (.str "fun"), .tup [.c (.str "a")], .v 3]])),
    .set 6 (.bin .add (.v 6) (.lst [.lst [.c (.str "use"), .v 3, .v 3], .tup [.c (.int 0), .c (.str "a"), .v 3], .tup [.c (.str "fun"), .call 19 [.v 0], .v 3], .tup [.c (.str "fun"), .c (.str "a"), .bin .add (.v 2) (.c (.int 1))]])),
    .set 6 (.bin .add (.v 6) (.lst [.tup [.c (.str "use"), .tup [.c (.str "use"), .v 3, .c .none], .v 3], .bin .pow (.c (.int 10)) (.c (.int 19)), .tup [.c (.str "fun"), .lst [.c (.str "a"), .c (.str "a")], .v 3], .tup [.c (.str "use"), .v 3, .v 2]])),
    .ret (.call 18 [.v 0, .bin .add (.v 6) (.lst [.tup [.c .none, .v 3, .v 3], .c (.str "fun"), .c (.str "use")])])]
section
variable {k : Nat}
theorem pow19 : binD .pow (.int 10) (.int 19) = some (.val (.int big)) := by kernel_rfl
theorem spoil_end {P : PyData} {m : Nat} {p : Pg} {h : PyData} {x4 x5 x6 : Slot} (hm : m ≤ 1000) (hp : Sp p.h (zz p.d) (p.h + 5) p) (hh : Hd h) (hk : 10 ≤ k) : ∃ (q : Pg) (h' : PyData) (z6 : Slot), Sp (p.h + 2) (3 * zz p.d + 500) (p.h + 46) q ∧ Hd h' ∧
    execSs 2000 [true, false, false, false] (enK 2000 T k .stuck) sP [.own h, .val P, .val (.int m), .val p.d, x4, x5, x6] = .ok (.ret (.val q.d)) [.own h', .val P, .val (.int m), .val p.d, x4, x5, z6] := by
  obtain ⟨w, h1, hw, hh1, e1⟩ := wild (k := k) hh (by omega)
  obtain ⟨x, h2, hx, hh2, e2⟩ := someM (W := 2000) (k := k) (i := 18) (l := (sps m p w).map Pg.d) HS hh1 (by simp [sps]) (by simp [sps]) (by omega)
  obtain ⟨q, hq, rfl⟩ := List.mem_map.mp hx
  suffices main : ∃ z6, execSs 2000 [true, false, false, false] (enK 2000 T k .stuck) sP [.own h, .val P, .val (.int m), .val p.d, x4, x5, x6] = .ok (.ret (.val q.d)) [.own h2, .val P, .val (.int m), .val p.d, x4, x5, z6] by
    obtain ⟨z6, e⟩ := main
    exact ⟨q, h2, z6, sps_ok hm hp hw hq, hh2, e⟩
  rw [sps_d] at e2
  generalize q.d = qd at e2 ⊢
  generalize p.d = pd at e2 ⊢
  generalize w.d = wd at e1 e2
  generalize hA : [PyData.int m, .int (-1), .int ((m : Int) + 1), .bool true, .bool false, .none, .str "", .str "noname", .str "F", .tuple [], .tuple [.str "fun"], .tuple [.str "use"], .list [pd], .dict [], .tuple [pd]] = A at e2
  generalize hB : [PyData.tuple [.str "fun", .str "a"], .tuple [.str "fun", .str "a", pd, .int 0], .tuple [.str "use", pd], .tuple [.str "use", pd, pd, pd]] = B at e2
  generalize hC : [PyData.tuple [.str "Fun", .str "a", pd], .tuple [.str "fun", .str "A", pd], .tuple [.str "fun", .none, pd], .tuple [.str "fun", .tuple [.str "a"], pd]] = C at e2
  generalize hD : [PyData.list [.str "use", pd, pd], .tuple [.int 0, .str "a", pd], .tuple [.str "fun", wd, pd], .tuple [.str "fun", .str "a", .int ((m : Int) + 1)]] = D at e2
  generalize hE : [PyData.tuple [.str "use", .tuple [.str "use", pd, .none], pd], .int big, .tuple [.str "fun", .list [.str "a", .str "a"], pd], .tuple [.str "use", pd, .int m]] = E at e2
  have lA : A.length = 15 := by subst hA; rfl
  have lB : B.length = 4 := by subst hB; rfl
  have lC : C.length = 4 := by subst hC; rfl
  have lD : D.length = 4 := by subst hD; rfl
  have lE : E.length = 4 := by subst hE; rfl
  have s1 : execS 2000 [true, false, false, false] (enK 2000 T k .stuck) (.set 6 (.lst [.v 2, .neg (.c (.int 1)), .bin .add (.v 2) (.c (.int 1)), .c (.bool true), .c (.bool false), .c .none, .c (.str ""), .c (.str "noname"), .c (.str "F"), .tup [], .tup [.c (.str "fun")], .tup [.c (.str "use")], .lst [.v 3], .dnew, .tup [.v 3]])) [.own h, .val P, .val (.int m), .val pd, x4, x5, x6] = .ok .nx [.own h, .val P, .val (.int m), .val pd, x4, x5, .own (.list A)] := by
    subst hA
    simp -implicitDefEqProofs
  have s2 : execS 2000 [true, false, false, false] (enK 2000 T k .stuck) (.set 6 (.bin .add (.v 6) (.lst [.tup [.c (.str "fun"), .c (.str "a")], .tup [.c (.str "fun"), .c (.str "a"), .v 3, .c (.int 0)], .tup [.c (.str "use"), .v 3], .tup [.c (.str "use"), .v 3, .v 3, .v 3]]))) [.own h, .val P, .val (.int m), .val pd, x4, x5, .own (.list A)] = .ok .nx [.own h, .val P, .val (.int m), .val pd, x4, x5, .own (.list (A ++ B))] := by
    subst hB
    simp -implicitDefEqProofs [lA]
  have s3 : execS 2000 [true, false, false, false] (enK 2000 T k .stuck) (.set 6 (.bin .add (.v 6) (.lst [.tup [.c (.str "Fun"), .c (.str "a"), .v 3], .tup [.c (.str "fun"), .c (.str "A"), .v 3], .tup [.c (.str "fun"), .c .none, .v 3], .tup [.c (.str "fun"), .tup [.c (.str "a")], .v 3]]))) [.own h, .val P, .val (.int m), .val pd, x4, x5, .own (.list (A ++ B))] = .ok .nx [.own h, .val P, .val (.int m), .val pd, x4, x5, .own (.list (A ++ B ++ C))] := by
    subst hC
    simp -implicitDefEqProofs [lA, lB]
  have s4 : execS 2000 [true, false, false, false] (enK 2000 T k .stuck) (.set 6 (.bin .add (.v 6) (.lst [.lst [.c (.str "use"), .v 3, .v 3], .tup [.c (.int 0), .c (.str "a"), .v 3], .tup [.c (.str "fun"), .call 19 [.v 0], .v 3], .tup [.c (.str "fun"), .c (.str "a"), .bin .add (.v 2) (.c (.int 1))]]))) [.own h, .val P, .val (.int m), .val pd, x4, x5, .own (.list (A ++ B ++ C))] = .ok .nx [.own h1, .val P, .val (.int m), .val pd, x4, x5, .own (.list (A ++ B ++ C ++ D))] := by
    subst hD
    simp -implicitDefEqProofs [lA, lB, lC, fd19, e1]
  have s5 : execS 2000 [true, false, false, false] (enK 2000 T k .stuck) (.set 6 (.bin .add (.v 6) (.lst [.tup [.c (.str "use"), .tup [.c (.str "use"), .v 3, .c .none], .v 3], .bin .pow (.c (.int 10)) (.c (.int 19)), .tup [.c (.str "fun"), .lst [.c (.str "a"), .c (.str "a")], .v 3], .tup [.c (.str "use"), .v 3, .v 2]]))) [.own h1, .val P, .val (.int m), .val pd, x4, x5, .own (.list (A ++ B ++ C ++ D))] = .ok .nx [.own h1, .val P, .val (.int m), .val pd, x4, x5, .own (.list (A ++ B ++ C ++ D ++ E))] := by
    subst hE
    simp -implicitDefEqProofs [lA, lB, lC, lD, pow19]
  rw [xs_step s1, xs_step s2, xs_step s3, xs_step s4, xs_step s5]
  have lF : (A ++ B ++ C ++ D ++ E).length = 31 := by simp [lA, lB, lC, lD, lE]
  generalize A ++ B ++ C ++ D ++ E = F at e2 lF ⊢
  refine ⟨.own (.list F), ?_⟩
  simp -implicitDefEqProofs [fd18, lF, e2]
end
end Law
namespace Law
open PySem Dn Dn.K0
section
variable {k : Nat}
theorem base_sp {N : List Str} {p : Pg} {m : Nat} (ho : p.ok 5) (hf : has N p m = true) (hm : m + p.h ≤ 1000) : Sp p.h (zz p.d) (p.h + 5) p := ⟨ho, Nat.le_refl _, has_shw ho hf hm⟩
theorem spoil {N : List Str} {P : PyData} : ∀ (p : Pg) (m k : Nat) (h : PyData), Hd h → p.ok 5 → has N p m = true → m + p.h ≤ 1000 → p.h + 15 ≤ k → ∃ (q : Pg) (h' : PyData), Sp (p.h + 2) (3 * zz p.d + 500) (p.h + 46) q ∧ Hd h' ∧
    callF 2000 T k 9 [.own h, .val P, .val (.int m), .val p.d] = .ok (.val q.d) [.own h', .val P, .val (.int m), .val p.d]
  | .o d, m, k, h, hh, hp, hf, hm, hk => by cases hf
  | .s x, m, k, h, hh, hp, hf, hm, hk => by
    obtain ⟨k, rfl⟩ : ∃ j, k = j + 1 := ⟨k - 1, by omega⟩
    obtain ⟨q, h', z6, q1, q2, q4⟩ := spoil_end (k := k) (P := P) (h := h) (m := m) (x4 := .un) (x5 := .un) (x6 := .un) (p := .s x) (by omega) (base_sp hp hf hm) hh (by omega)
    refine ⟨q, h', q1, q2, ?_⟩
    rw [callF_eq T_9 rfl]
    rw [show (Pg.s x).d = .str x from rfl] at q4 ⊢
    show finR 4 (execSs 2000 [true, false, false, false] (enK 2000 T k .stuck) (_ :: sP) [.own h, .val P, .val (.int m), .val (.str x), .un, .un, .un]) = _
    rw [xs_step (ρ' := [.own h, .val P, .val (.int m), .val (.str x), .un, .un, .un]) (by simp -implicitDefEqProofs [isTy]), q4]
    simp -implicitDefEqProofs
  | .i n, m, k, h, hh, hp, hf, hm, hk => by
    obtain ⟨k, rfl⟩ : ∃ j, k = j + 1 := ⟨k - 1, by omega⟩
    obtain ⟨q, h', z6, q1, q2, q4⟩ := spoil_end (k := k) (P := P) (h := h) (m := m) (x4 := .un) (x5 := .un) (x6 := .un) (p := .i n) (by omega) (base_sp hp hf hm) hh (by omega)
    refine ⟨q, h', q1, q2, ?_⟩
    rw [callF_eq T_9 rfl]
    rw [show (Pg.i n).d = .int n from rfl] at q4 ⊢
    show finR 4 (execSs 2000 [true, false, false, false] (enK 2000 T k .stuck) (_ :: sP) [.own h, .val P, .val (.int m), .val (.int n), .un, .un, .un]) = _
    rw [xs_step (ρ' := [.own h, .val P, .val (.int m), .val (.int n), .un, .un, .un]) (by simp -implicitDefEqProofs [isTy]), q4]
    simp -implicitDefEqProofs
  | .f g b, m, k, h, hh, hp, hf, hm, hk => by
    have hk : b.h + 1 + 15 ≤ k := hk
    have hm' : m + (b.h + 1) ≤ 1000 := hm
    obtain ⟨k, rfl⟩ : ∃ j, k = j + 1 := ⟨k - 1, by omega⟩
    obtain ⟨r, h1, hr, hh1, d1⟩ := draw (W := 2000) (k := k) (i := 5) (lim := 4) T_5 hh (by omega) (by omega) (by omega)
    have hf2 : (g.kd && has N b (m + 1)) = true := hf
    rw [Bool.and_eq_true] at hf2
    rw [callF_eq T_9 rfl]
    by_cases c : r = 0
    · obtain ⟨q, h', z6, q1, q2, q4⟩ := spoil_end (k := k) (P := P) (h := h1) (m := m) (x4 := .un) (x5 := .un) (x6 := .un) (p := .f g b) (by omega) (base_sp hp hf hm) hh1 (by omega)
      refine ⟨q, h', q1, q2, ?_⟩
      rw [show (Pg.f g b).d = .tuple [.str "fun", g.d, b.d] from rfl] at q4 ⊢
      subst c
      show finR 4 (execSs 2000 [true, false, false, false] (enK 2000 T k .stuck) (_ :: sP) [.own h, .val P, .val (.int m), .val (.tuple [.str "fun", g.d, b.d]), .un, .un, .un]) = _
      simp -implicitDefEqProofs at d1
      rw [xs_step (ρ' := [.own h1, .val P, .val (.int m), .val (.tuple [.str "fun", g.d, b.d]), .un, .un, .un]) (by simp -implicitDefEqProofs [isTy, fd5, d1]), q4]
      simp -implicitDefEqProofs
    · obtain ⟨q, h2, q1, q2, q4⟩ := spoil (N := N) (P := P) b (m + 1) k h1 hh1 hp.2.2.2 hf2.2 (by omega) (by omega)
      obtain ⟨gp, gh⟩ := hp.2.1 hf2.1
      obtain ⟨g1, g2⟩ := pu_shw gp
      have gs : Shw (zz g.d) 5 g.d := ⟨g1, g2, Nat.le_refl _, Nat.le_trans (Th.pu_depth gp) gh⟩
      have zf : zz (Pg.f g b).d = zz g.d + zz b.d + 14 := z_f
      refine ⟨.f g q, h2, (Sp.fun q1 hp.1 hp.2.1 hp.2.2.1 gs).le (by show _ ≤ b.h + 1 + 2; omega) (by omega) (by show _ ≤ b.h + 1 + 46; omega), q2, ?_⟩
      rw [show (Pg.f g b).d = .tuple [.str "fun", g.d, b.d] from rfl, show (Pg.f g q).d = .tuple [.str "fun", g.d, q.d] from rfl]
      have mi : ((m + 1 : Nat) : Int) = (m : Int) + 1 := by omega
      rw [mi] at q4
      have c1 : 0 < r := by omega
      simp -implicitDefEqProofs [fd9, b9, isTy, fd5, d1, c1, q4]
  | .u a b, m, k, h, hh, hp, hf, hm, hk => by
    have hk : max a.h b.h + 1 + 15 ≤ k := hk
    have hm' : m + (max a.h b.h + 1) ≤ 1000 := hm
    obtain ⟨k, rfl⟩ : ∃ j, k = j + 1 := ⟨k - 1, by omega⟩
    obtain ⟨r, h1, hr, hh1, d1⟩ := draw (W := 2000) (k := k) (i := 5) (lim := 4) T_5 hh (by omega) (by omega) (by omega)
    have hf2 : (has N a m && has N b m) = true := hf
    rw [Bool.and_eq_true] at hf2
    rw [callF_eq T_9 rfl]
    by_cases c : r = 0
    · obtain ⟨q, h', z6, q1, q2, q4⟩ := spoil_end (k := k) (P := P) (h := h1) (m := m) (x4 := .un) (x5 := .un) (x6 := .un) (p := .u a b) (by omega) (base_sp hp hf hm) hh1 (by omega)
      refine ⟨q, h', q1, q2, ?_⟩
      rw [show (Pg.u a b).d = .tuple [.str "use", a.d, b.d] from rfl] at q4 ⊢
      subst c
      show finR 4 (execSs 2000 [true, false, false, false] (enK 2000 T k .stuck) (_ :: sP) [.own h, .val P, .val (.int m), .val (.tuple [.str "use", a.d, b.d]), .un, .un, .un]) = _
      simp -implicitDefEqProofs at d1
      rw [xs_step (ρ' := [.own h1, .val P, .val (.int m), .val (.tuple [.str "use", a.d, b.d]), .un, .un, .un]) (by simp -implicitDefEqProofs [isTy, fd5, d1]), q4]
      simp -implicitDefEqProofs
    · have c1 : 0 < r := by omega
      obtain ⟨w, h2, hw, hh2, d2⟩ := draw (W := 2000) (k := k) (i := 5) (lim := 2) T_5 hh1 (by omega) (by omega) (by omega)
      have zu : zz (Pg.u a b).d = zz a.d + zz b.d + 14 := z_u
      have sa := base_sp hp.1 hf2.1 (by omega)
      have sb := base_sp hp.2 hf2.2 (by omega)
      rw [show (Pg.u a b).d = .tuple [.str "use", a.d, b.d] from rfl] at zu ⊢
      by_cases c2 : w = 0
      · obtain ⟨q, h3, q1, q2, q4⟩ := spoil (N := N) (P := P) a m k h2 hh2 hp.1 hf2.1 (by omega) (by omega)
        refine ⟨.u q b, h3, (q1.use sb).le (by show _ ≤ max a.h b.h + 1 + 2; omega) (by omega) (by show _ ≤ max a.h b.h + 1 + 46; omega), q2, ?_⟩
        rw [show (Pg.u q b).d = .tuple [.str "use", q.d, b.d] from rfl]
        subst c2
        simp -implicitDefEqProofs at d2
        simp -implicitDefEqProofs [fd9, b9, isTy, use_fun, fd5, d1, d2, c1, q4]
      · have w1 : w = 1 := by omega
        subst w1
        obtain ⟨q, h3, q1, q2, q4⟩ := spoil (N := N) (P := P) b m k h2 hh2 hp.2 hf2.2 (by omega) (by omega)
        refine ⟨.u a q, h3, (sa.use q1).le (by show _ ≤ max a.h b.h + 1 + 2; omega) (by omega) (by show _ ≤ max a.h b.h + 1 + 46; omega), q2, ?_⟩
        rw [show (Pg.u a q).d = .tuple [.str "use", a.d, q.d] from rfl]
        simp -implicitDefEqProofs at d2
        simp -implicitDefEqProofs [fd9, b9, isTy, use_fun, fd5, d1, d2, c1, q4]
end
end Law
namespace Law
open PySem Dn Dn.K0
/-! ### is it a program of the wish -/
def progK : Option Th → PyData → Bool
  | some t, d => PyData.eqv t.d d
  | none, _ => false
def progV (L : List (Str × Th)) (K : Th) (p : Pg) : Bool := has (L.map (·.1)) p 0 && progK (kindOf L p []) K.d
theorem progK_s {t : Th} {d : PyData} : progK (some t) d = PyData.eqv t.d d := rfl
theorem progK_n {d : PyData} : progK none d = false := rfl
theorem none_eq {K : Th} (hK : K.pu) : eqD .none K.d = some false := by
  cases K with
  | o d => exact False.elim hK
  | a s => exact eqD_of rfl rfl (sd_lay (Th.pu_sd hK)) (by show min 0 _ ≤ 64; omega)
  | f l r => exact eqD_of rfl rfl (sd_lay (Th.pu_sd hK)) (by show min 0 _ ≤ 64; omega)
section
variable {k : Nat}
theorem isProg {L : List (Str × Th)} {K : Th} {p : Pg} (hL : LibDr L) (hK : K.pu) (kh : K.h ≤ 5) (ho : p.ok 5) (hh : p.h ≤ 60) (hk : p.h + 25 ≤ k) : callF 2000 T k 12 [.val (wishD L K.d), .val p.d] = .ok (.val (.bool (progV L K p))) [.val (wishD L K.d), .val p.d] := by
  obtain ⟨k, rfl⟩ : ∃ z, k = z + 1 := ⟨k - 1, by omega⟩
  have lk := hL.libK (B := 5) (by omega)
  have e := hasForm HF (W := 2000) (l := dl L) p 0 k ho (by omega)
  rw [dl_names] at e
  have e : callF 2000 T k 23 [.val (.dict (kvS (dl L))), .val p.d, .val (.int 0)] = _ := e
  have f1 : fieldOf "Wish" "kinds" (wishD L K.d) = some (.dict (kvS (dl L))) := rfl
  have f2 : fieldOf "Wish" "kind" (wishD L K.d) = some K.d := rfl
  unfold progV
  rw [callF_eq T_12 rfl]
  generalize wishD L K.d = wsh at f1 f2 ⊢
  cases c : has (L.map (·.1)) p 0 with
  | false =>
    rw [c] at e
    generalize kvS (dl L) = kv at e f1
    simp -implicitDefEqProofs [fd12, b12, f1, fd23, e]
  | true =>
    rw [c] at e
    have e2 := kindIn HKi (W := 2000) lk.2 p [] k ho c (fun t ht => nomatch ht) (by omega) (by simp; omega) (by omega)
    have e2 : callF 2000 T k 24 [.val (.dict (kvS (dl L))), .val p.d, .val (.tuple [])] = .ok (.val (kD (kindOf L p []))) [.val (.dict (kvS (dl L))), .val p.d, .val (.tuple [])] := e2
    cases ke : kindOf L p [] with
    | none =>
      rw [ke] at e2
      have e2 : callF 2000 T k 24 [.val (.dict (kvS (dl L))), .val p.d, .val (.tuple [])] = .ok (.val .none) [.val (.dict (kvS (dl L))), .val p.d, .val (.tuple [])] := e2
      have q := none_eq hK
      rw [progK_n]
      generalize kvS (dl L) = kv at e e2 f1
      generalize K.d = kd at f2 q
      simp -implicitDefEqProofs [fd12, b12, f1, f2, fd23, fd24, e, e2, q]
    | some t =>
      rw [ke] at e2
      have e2 : callF 2000 T k 24 [.val (.dict (kvS (dl L))), .val p.d, .val (.tuple [])] = .ok (.val t.d) [.val (.dict (kvS (dl L))), .val p.d, .val (.tuple [])] := e2
      have kt := kindOf_ok lk.2 p [] 0 _ ho c (fun t ht => nomatch ht) t ke
      have q := eqD_eqv (Th.pu_sd kt.1) (Th.pu_sd hK) (by have := Th.pu_depth hK; omega)
      rw [progK_s]
      generalize kvS (dl L) = kv at e e2 f1
      generalize K.d = kd at f2 q ⊢
      generalize t.d = td at e2 q ⊢
      simp -implicitDefEqProofs [fd12, b12, f1, f2, fd23, fd24, e, e2, q]
end
/-! ### what is told -/
theorem pu_nice : ∀ {t : Th}, t.pu → nice t.d = true
  | .a _, _ => rfl
  | .f l r, h => by
    show (decide (2 ≤ 1000) && (nice l.d && (nice r.d && true))) = true
    rw [pu_nice h.1, pu_nice h.2]
    rfl
theorem told_nice {L : List (Str × Th)} {p : Pg} (hL : LibDr L) (hp : p.ok 5) (hh : p.h ≤ 60) : nice (toldV L p) = true ∧ (toldV L p).depth ≤ 70 := by
  unfold toldV
  cases c : has (L.map (·.1)) p 0 with
  | false =>
    rw [if_neg Bool.false_ne_true]
    exact ⟨rfl, by decide⟩
  | true =>
    rw [if_pos rfl]
    cases e : kindOf L p [] with
    | none => exact ⟨rfl, by decide⟩
    | some t =>
      have q := kindOf_ok (hL.libK (B := 5) (by omega)).2 p [] 0 _ hp c (fun t ht => nomatch ht) t e
      have d := Th.pu_depth q.1
      refine ⟨?_, ?_⟩
      · show (decide (2 ≤ 1000) && (true && (nice t.d && true))) = true
        rw [pu_nice q.1]
        rfl
      · show max 0 (max t.d.depth 0) + 1 ≤ 70
        omega
theorem s_told : sd (.str "told") = true := by show PyData.strOk "told" = true; decide +kernel
/-- told is due, just if it is a program of the wish -/
theorem due_told {L : List (Str × Th)} {K : Th} {p : Pg} (hL : LibDr L) (hK : K.pu) (kh : K.h ≤ 5) (ho : p.ok 5) (hh : p.h ≤ 60) : eqD (toldV L p) (.tuple [.str "told", K.d]) = some (progV L K p) := by
  have kd := Th.pu_depth hK
  have lay : (PyData.tuple [.str "told", K.d]).canLay0 = true := sd_lay (show sd (.tuple [.str "told", K.d]) = true by
    show (sd (.str "told") && (sd K.d && true)) = true
    rw [s_told, Th.pu_sd hK]; rfl)
  have dep : ∀ d : PyData, min d.depth (PyData.tuple [.str "told", K.d]).depth ≤ 64 := fun d => by
    have : (PyData.tuple [.str "told", K.d]).depth = max 0 (max K.d.depth 0) + 1 := rfl
    omega
  unfold toldV progV
  cases c : has (L.map (·.1)) p 0 with
  | false =>
    rw [if_neg Bool.false_ne_true]
    exact eqD_of eqT_tup (by decide +kernel) lay (dep _)
  | true =>
    rw [if_pos rfl]
    cases e : kindOf L p [] with
    | none =>
      rw [show kD none = PyData.none from rfl]
      rw [eqD_of eqT_tup (by decide +kernel) lay (dep _)]
      have : PyData.eqv .none K.d = false := by
        cases K with
        | o d => exact False.elim hK
        | a s => rfl
        | f l r => rfl
      show some (("told" : Str) == "told" && (PyData.eqv .none K.d && true)) = _
      rw [this]
      rfl
    | some t =>
      have q := kindOf_ok (hL.libK (B := 5) (by omega)).2 p [] 0 _ ho c (fun t ht => nomatch ht) t e
      rw [show kD (some t) = t.d from rfl, eqD_of eqT_tup (sd_lay (show sd (.tuple [.str "told", t.d]) = true by
        show (sd (.str "told") && (sd t.d && true)) = true
        rw [s_told, Th.pu_sd q.1]; rfl)) lay (dep _)]
      show some (("told" : Str) == "told" && (PyData.eqv t.d K.d && true)) = some (true && PyData.eqv t.d K.d)
      rw [show (("told" : Str) == "told") = true by decide]
      cases PyData.eqv t.d K.d <;> rfl
end Law
namespace Law
open PySem Dn Dn.K0
theorem known : callF 2000 T 219 2 [] = .ok (.val (.bool true)) [] := by kernel_rfl
theorem is_one {d : PyData} (hn : nice d = true) (hd : d.depth ≤ 80) : callF 2000 T 218 21 [.val d, .val d] = .ok (.val (.bool true)) [.val d, .val d] := is_refl (W := 2000) (i := 21) T_21 80 d 218 hd (by omega) hn
theorem judged {L : List (Str × Th)} {K : Th} {q : Pg} (hL : LibDr L) (hK : K.pu) (kh : K.h ≤ 5) (hq : Sp 60 6600000 95 q) : callF 2000 T 219 10 [.val (wishD L K.d), .val (.tuple (prS (dl L))), .val q.d] = .ok (.val (.bool true)) [.val (wishD L K.d), .val (.tuple (prS (dl L))), .val q.d] := by
  have lk := hL.libK (B := 5) (by omega)
  have ho := hq.1
  have hh := hq.2.1
  have e2 := toldP (W := 2000) (k := 218) HT (K := K.d) lk ho (by omega) (by omega)
  have e3 := dueP (W := 2000) (k := 218) HU lk ho (by omega) (by omega)
  have e4 := isProg (k := 218) hL hK kh ho hh (by omega)
  obtain ⟨n1, n2⟩ := told_nice hL ho hh
  have e5 := is_one n1 (by omega)
  have e6 := due_told hL hK kh ho hh
  have e7 := is_one (d := .bool (progV L K q)) rfl (by show 0 ≤ 80; omega)
  have f2 : fieldOf "Wish" "kind" (wishD L K.d) = some K.d := rfl
  have rp := hq.2.2.shown (by omega) (by omega)
  rw [callF_eq T_10 rfl]
  generalize wishD L K.d = wsh at e2 e4 f2 ⊢
  generalize prS (dl L) = P at e3 ⊢
  generalize toldV L q = tv at e2 e3 e5 e6
  generalize progV L K q = pv at e4 e6 e7
  generalize q.d.shown = S at rp
  generalize q.d = qd at *
  generalize K.d = kd at *
  simp -implicitDefEqProofs [fd10, b10, fd11, fd12, fd20, fd21, rp, e2, e3, e4, e5, e6, e7, f2]
/-! ### the law -/
def Found (L : List (Str × Th)) (p : Pg) : Prop := p.ok 5 ∧ has (L.map (·.1)) p 0 = true ∧ p.h ≤ 46 ∧ zz p.d ≤ 1300000
def fallback : Pg := .f (.a "a") (.f (.f (.a "a") (.a "b")) (.u (.i 1) (.i 0)))
theorem dr_f {t : Th} {p : Pg} (h : K0.Th.dr t) (n : K0.Th.n t ≤ 5) (hp : p.ok 5) : (Pg.f t p).ok 5 := by
  have := K0.Th.h_n t
  exact ⟨K0.Th.dr_ok h, fun _ => ⟨dr_pu h, by omega⟩, by omega, hp⟩
theorem fall_ok (L : List (Str × Th)) : Found L fallback := by
  have a := a_dr
  have b : K0.Th.dr (.a "b") := by simp [K0.Th.dr, drawn]
  have ab : K0.Th.dr (.f (.a "a") (.a "b")) := ⟨a, b⟩
  have ka := dr_kd a (by decide)
  have kab := dr_kd ab (by decide)
  exact ⟨dr_f a (by decide) (dr_f ab (by decide) ⟨True.intro, True.intro⟩), by simp [fallback, has, ka, kab], by decide, by decide +kernel⟩
theorem Found.sp {L : List (Str × Th)} {p : Pg} (h : Found L p) : Sp 46 1300000 51 p := by
  have := h.2.2.1
  have := h.2.2.2
  exact (base_sp h.1 h.2.1 (by omega)).le (by omega) (by omega) (by omega)
section
variable {s : PyData} {L : List (Str × Th)} {K : Th} {p : Pg}
abbrev sN : MS := .ite (.cmp .is (.v 6) (.c .none)) [.set 6 (.tup [.c (.str "fun"), .c (.str "a"), .tup [.c (.str "fun"), .tup [.c (.str "a"), .c (.str "b")], .tup [.c (.str "use"), .c (.int 1), .c (.int 0)]]])] []
theorem sN_run {h : PyData} {x : PyData} {d w kd : PyData} {x7 x8 x9 : Dn.Slot} (hx : MadeR L [] K 46 1300000 x) : ∃ p : Pg, Found L p ∧
    execS 2000 [false] (enK 2000 T 219 .stuck) sN [.val s, .own h, .val d, .val (.tuple (prS (dl L))), .val kd, .val w, .val x, x7, x8, x9] = .ok .nx [.val s, .own h, .val d, .val (.tuple (prS (dl L))), .val kd, .val w, .val p.d, x7, x8, x9] := by
  rcases hx with rfl | ⟨p, rfl, m⟩
  · refine ⟨fallback, fall_ok L, ?_⟩
    rw [show fallback.d = .tuple [.str "fun", .str "a", .tuple [.str "fun", .tuple [.str "a", .str "b"], .tuple [.str "use", .int 1, .int 0]]] from rfl]
    generalize prS (dl L) = P
    simp -implicitDefEqProofs [isNn]
  · refine ⟨p, ⟨m.1, m.2.1, m.2.2.2.1, m.2.2.2.2⟩, ?_⟩
    have pn := pg_none m.1 m.2.1
    generalize prS (dl L) = P
    simp -implicitDefEqProofs [pn]
def AllSp (l : List PyData) : Prop := ∀ x ∈ l, ∃ q : Pg, x = q.d ∧ Sp 60 6600000 95 q
theorem AllSp.nil : AllSp [] := fun x h => nomatch h
theorem AllSp.snoc {l : List PyData} {q : Pg} (h : AllSp l) (g : Sp 60 6600000 95 q) : AllSp (l ++ [q.d]) := fun x hx => by
  rcases List.mem_append.mp hx with z | z
  · exact h x z
  · exact ⟨q, List.mem_singleton.mp z, g⟩
theorem AllSp.app {l m : List PyData} (h : AllSp l) (g : AllSp m) : AllSp (l ++ m) := fun x hx => by
  rcases List.mem_append.mp hx with z | z
  · exact h x z
  · exact g x z
def SpI (s d lib kd wsh pd : PyData) (x7 x9 : Dn.Slot) (l : List PyData) (ρ : Dn.Env) : Prop := ∃ h, Hd h ∧ AllSp l ∧ ρ = [.val s, .own h, .val d, .val lib, .val kd, .val wsh, .val pd, x7, .un, x9]
theorem spoils {h d lib kd wsh : PyData} {x7 x8 x9 : Dn.Slot} (F : Found L p) (hh : Hd h) : ∃ l h', Hd h' ∧ AllSp l ∧ l.length = 6 ∧
    lcE [false] (enK 2000 T 219 .stuck) [8] (.n 8) [] (.call 9 [.v 1, .v 3, .c (.int 0), .v 6]) [.int 0, .int 1, .int 2, .int 3, .int 4, .int 5] [.val s, .own h, .val d, .val lib, .val kd, .val wsh, .val p.d, x7, x8, x9]
      = .ok (.fr (.list l)) [.val s, .own h', .val d, .val lib, .val kd, .val wsh, .val p.d, x7, x8, x9] := by
  obtain ⟨l, ρ', e, ⟨h', hh', al, rfl⟩, ll⟩ := lc_run (md := [false]) (en := enK 2000 T 219 .stuck) (ws := [8]) (tg := .n 8) (e := .call 9 [.v 1, .v 3, .c (.int 0), .v 6]) (ds := [.int 0, .int 1, .int 2, .int 3, .int 4, .int 5]) (ρ := [.val s, .own h, .val d, .val lib, .val kd, .val wsh, .val p.d, x7, x8, x9])
    (SpI s d lib kd wsh p.d x7 x9) rfl (by decide) ⟨h, hh, .nil, rfl⟩ fun e _ acc ρ i => by
      obtain ⟨h, hh, al, rfl⟩ := i
      obtain ⟨q, h', sq, hh', e1⟩ := spoil (N := L.map (·.1)) (P := lib) p 0 219 h hh F.1 F.2.1 (by have := F.2.2.1; omega) (by have := F.2.2.1; omega)
      have e1 : callF 2000 T 219 9 [.own h, .val lib, .val (.int 0), .val p.d] = .ok (.val q.d) [.own h', .val lib, .val (.int 0), .val p.d] := e1
      have f1 := F.2.2.1
      have f2 := F.2.2.2
      refine ⟨[.val s, .own h, .val d, .val lib, .val kd, .val wsh, .val p.d, x7, .val e, x9], by simp, q.d, [.val s, .own h', .val d, .val lib, .val kd, .val wsh, .val p.d, x7, .val e, x9], ?_, h', hh', al.snoc (sq.le (by omega) (by omega) (by omega)), by simp⟩
      generalize p.d = pd at e1 ⊢
      generalize q.d = qd at e1 ⊢
      simp -implicitDefEqProofs [fd9, e1]
  exact ⟨l, h', hh', al, ll, e⟩
def LawI (script : PyData) (ρ : Dn.Env) : Prop := ∃ (h : PyData) (x2 x3 x4 x5 x6 x7 x8 x9 : Dn.Slot), Hd h ∧ ρ = [.val script, .own h, x2, x3, x4, x5, x6, x7, x8, x9]
abbrev l1 : MS := .par 3 4 (.call 3 [.v 1, .c (.int 4)]) (.call 4 [.v 1, .bin .add (.c (.int 1)) (.call 5 [.v 1, .c (.int 4)])])
abbrev l2 : MS := .par 5 6 (.wish "Wish" 6 0 (.v 3) (.v 4)) (.call 7 [.v 1, .v 3, .lst [], .v 4, .c (.int 7)])
abbrev l4 : MS := .set 7 (.bin .add (.lst [.v 6, .call 8 [.v 1]]) (.lc [8] (.n 8) (.range1 (.c (.int 6))) [] (.call 9 [.v 1, .v 3, .c (.int 0), .v 6])))
abbrev l5 : MS := .app 7 (.tup [.c (.str "use"), .call 9 [.v 1, .v 3, .c (.int 0), .v 6], .tup [.c (.str "use"), .v 6, .v 6]])
abbrev l6 : MS := .ite (.not (.blt .all [.lc [9] (.n 9) (.ex (.v 7)) [] (.call 10 [.v 5, .v 3, .v 9])])) [.ret (.c (.bool false))] []
theorem turn' {d : PyData} {ρ : Dn.Env} (hρ : LawI s ρ) : ∃ ρ1, assignT [false] (.n 2) d ρ = some ρ1 ∧ ∃ ρ2, execSs 2000 [false] (enK 2000 T 219 .stuck) [l1, l2, sN, l4, l5, l6] ρ1 = .ok .nx ρ2 ∧ LawI s ρ2 := by
  obtain ⟨h, x2, x3, x4, x5, x6, x7, x8, x9, hh, rfl⟩ := hρ
  obtain ⟨L, h1, hL, hh1, e1⟩ := library (W := 2000) (k := 219) (i := 3) (dr := 5) (ki := 4) T_3 T_5 HD hh (by omega)
  obtain ⟨r, h2, hr, hh2, e2⟩ := draw (W := 2000) (k := 219) (i := 5) (lim := 4) T_5 hh1 (by omega) (by omega) (by omega)
  obtain ⟨K, h3, kd0, kn0, hh3, e3⟩ := kind (W := 2000) HD (1 + r) (by omega) (by omega) 219 (by omega) h2 hh2
  have z : ((1 + r : Nat) : Int) = 1 + (r : Int) := by omega
  rw [z] at e3
  have kpu := dr_pu kd0
  have khn := K0.Th.h_n K
  have low := lowW hL.good (dr_kd kd0 (by omega)) (K0.Th.dr_ok kd0)
  have la := hL.good.lay
  obtain ⟨x, h4, hx, hh4, e4⟩ := mk hL [] K 7 h3 hh3 (fun t ht => nomatch ht) kd0 (by omega) (by omega) (by unfold mu; omega) (by unfold mu; simp; omega)
  have e4 : callF 2000 T 219 7 [.own h3, .val (.tuple (prS (dl L))), .val (.list []), .val K.d, .val (.int 7)] = .ok (.val x) [.own h4, .val (.tuple (prS (dl L))), .val (.list []), .val K.d, .val (.int 7)] := e4
  have hx46 : MadeR L [] K 46 1300000 x := by
    rcases hx with rfl | ⟨p, rfl, m⟩
    · exact .inl rfl
    · refine .inr ⟨p, rfl, m.le (by unfold Hb; rw [if_pos (by omega)]; omega) ?_⟩
      rw [zb_x, show ((7 : Int) + 6).toNat = 13 from rfl]
      unfold Zx
      rw [if_neg (by omega), show 2 ^ 13 = 8192 from rfl]
      omega
  obtain ⟨p, F, e5⟩ := sN_run (s := s) (d := d) (h := h4) (kd := K.d) (w := wishD L K.d) (x7 := x7) (x8 := x8) (x9 := x9) hx46
  obtain ⟨q, h5, sq, hh5, e6⟩ := deepThing (k := 219) hh4 (by omega)
  obtain ⟨l, h6, hh6, al, ll, e7⟩ := spoils (s := s) (d := d) (lib := .tuple (prS (dl L))) (kd := K.d) (wsh := wishD L K.d) (x7 := x7) (x8 := x8) (x9 := x9) F hh5
  obtain ⟨q2, h7, sq2, hh7, e8⟩ := spoil (N := L.map (·.1)) (P := .tuple (prS (dl L))) p 0 219 h6 hh6 F.1 F.2.1 (by have := F.2.2.1; omega) (by have := F.2.2.1; omega)
  have e8 : callF 2000 T 219 9 [.own h6, .val (.tuple (prS (dl L))), .val (.int 0), .val p.d] = .ok (.val q2.d) [.own h7, .val (.tuple (prS (dl L))), .val (.int 0), .val p.d] := e8
  have f1 := F.2.2.1
  have f2 := F.2.2.2
  have rg : rangeD 0 6 = some [.int 0, .int 1, .int 2, .int 3, .int 4, .int 5] := by kernel_rfl
  -- all of them
  have all : AllSp ([p.d, q.d] ++ l ++ [(Pg.u q2 (.u p p)).d]) := by
    refine AllSp.snoc (AllSp.app ?_ al) ((sq2.use (F.sp.use F.sp)).le (by omega) (by omega) (by omega))
    exact AllSp.snoc (AllSp.snoc AllSp.nil (F.sp.le (by omega) (by omega) (by omega))) (sq.le (by omega) (by omega) (by omega))
  have len : ([p.d, q.d] ++ l ++ [(Pg.u q2 (.u p p)).d]).length = 9 := by simp [ll]
  have a9 : ∀ wsh : PyData, wsh = wishD L K.d → lcE [false] (enK 2000 T 219 .stuck) [9] (.n 9) [] (.call 10 [.v 5, .v 3, .v 9]) ([p.d, q.d] ++ l ++ [(Pg.u q2 (.u p p)).d]) [.val s, .own h7, .val d, .val (.tuple (prS (dl L))), .val K.d, .val wsh, .val p.d, .val (.list ([p.d, q.d] ++ l ++ [(Pg.u q2 (.u p p)).d])), x8, x9]
      = .ok (.fr (.list (([p.d, q.d] ++ l ++ [(Pg.u q2 (.u p p)).d]).map fun _ => .bool true))) [.val s, .own h7, .val d, .val (.tuple (prS (dl L))), .val K.d, .val wsh, .val p.d, .val (.list ([p.d, q.d] ++ l ++ [(Pg.u q2 (.u p p)).d])), x8, x9] := fun wsh we => by
    generalize [p.d, q.d] ++ l ++ [(Pg.u q2 (.u p p)).d] = A at all len ⊢
    refine lc_map (ρ0 := [.val s, .own h7, .val d, .val (.tuple (prS (dl L))), .val K.d, .val wsh, .val p.d, .val (.list A), x8, .un]) _ rfl (by rw [len]; decide) rfl rfl fun x hx => ?_
    obtain ⟨t, rfl, st⟩ := all x hx
    have j := judged (K := K) hL kpu (by omega) st
    rw [← we] at j
    refine ⟨[.val s, .own h7, .val d, .val (.tuple (prS (dl L))), .val K.d, .val wsh, .val p.d, .val (.list A), x8, .val t.d], by simp, [.val s, .own h7, .val d, .val (.tuple (prS (dl L))), .val K.d, .val wsh, .val p.d, .val (.list A), x8, .val t.d], ?_, by simp⟩
    generalize prS (dl L) = P at j ⊢
    generalize t.d = td at j ⊢
    simp -implicitDefEqProofs [fd10, j]
  have bs : boolsOf (([p.d, q.d] ++ l ++ [(Pg.u q2 (.u p p)).d]).map fun _ => PyData.bool true) = some (([p.d, q.d] ++ l ++ [(Pg.u q2 (.u p p)).d]).map fun _ => true) := boolsOf_map (fun _ => true) _
  refine ⟨[.val s, .own h, .val d, x3, x4, x5, x6, x7, x8, x9], by simp, [.val s, .own h7, .val d, .val (.tuple (prS (dl L))), .val K.d, .val (wishD L K.d), .val p.d, .val (.list ([p.d, q.d] ++ l ++ [(Pg.u q2 (.u p p)).d])), x8, x9], ?_, h7, _, _, _, _, _, _, _, _, hh7, rfl⟩
  have a1 : execS 2000 [false] (enK 2000 T 219 .stuck) l1 [.val s, .own h, .val d, x3, x4, x5, x6, x7, x8, x9] = .ok .nx [.val s, .own h3, .val d, .val (.tuple (prS (dl L))), .val K.d, x5, x6, x7, x8, x9] := by
    generalize prS (dl L) = P at e1 ⊢
    simp -implicitDefEqProofs [fd3, fd4, fd5, e1, e2, e3]
  have a2 : execS 2000 [false] (enK 2000 T 219 .stuck) l2 [.val s, .own h3, .val d, .val (.tuple (prS (dl L))), .val K.d, x5, x6, x7, x8, x9] = .ok .nx [.val s, .own h4, .val d, .val (.tuple (prS (dl L))), .val K.d, .val (wishD L K.d), .val x, x7, x8, x9] := by
    unfold wishD
    generalize kvS (dl L) = kv at la ⊢
    generalize prS (dl L) = P at low la e4 ⊢
    generalize K.d = kd at low e4 ⊢
    simp -implicitDefEqProofs [fd7, low, la, e4]
  have a4 : execS 2000 [false] (enK 2000 T 219 .stuck) l4 [.val s, .own h4, .val d, .val (.tuple (prS (dl L))), .val K.d, .val (wishD L K.d), .val p.d, x7, x8, x9] = .ok .nx [.val s, .own h6, .val d, .val (.tuple (prS (dl L))), .val K.d, .val (wishD L K.d), .val p.d, .own (.list ([p.d, q.d] ++ l)), x8, x9] := by
    generalize wishD L K.d = wsh at e7 ⊢
    generalize prS (dl L) = P at e7 ⊢
    generalize p.d = pd at e7 ⊢
    generalize q.d = qd at e6 ⊢
    generalize K.d = kd at e7 ⊢
    simp -implicitDefEqProofs [fd8, e6, rg, e7, ll]
  have a5 : execS 2000 [false] (enK 2000 T 219 .stuck) l5 [.val s, .own h6, .val d, .val (.tuple (prS (dl L))), .val K.d, .val (wishD L K.d), .val p.d, .own (.list ([p.d, q.d] ++ l)), x8, x9] = .ok .nx [.val s, .own h7, .val d, .val (.tuple (prS (dl L))), .val K.d, .val (wishD L K.d), .val p.d, .own (.list ([p.d, q.d] ++ l ++ [(Pg.u q2 (.u p p)).d])), x8, x9] := by
    rw [show (Pg.u q2 (.u p p)).d = .tuple [.str "use", q2.d, .tuple [.str "use", p.d, p.d]] from rfl]
    have lA : ([p.d, q.d] ++ l).length = 8 := by simp [ll]
    generalize [p.d, q.d] ++ l = A at lA ⊢
    generalize wishD L K.d = wsh
    generalize prS (dl L) = P at e8 ⊢
    generalize p.d = pd at e8 ⊢
    generalize q2.d = qd at e8 ⊢
    generalize K.d = kd
    simp -implicitDefEqProofs [fd9, e8, lA]
  have a6 : execS 2000 [false] (enK 2000 T 219 .stuck) l6 [.val s, .own h7, .val d, .val (.tuple (prS (dl L))), .val K.d, .val (wishD L K.d), .val p.d, .own (.list ([p.d, q.d] ++ l ++ [(Pg.u q2 (.u p p)).d])), x8, x9] = .ok .nx [.val s, .own h7, .val d, .val (.tuple (prS (dl L))), .val K.d, .val (wishD L K.d), .val p.d, .val (.list ([p.d, q.d] ++ l ++ [(Pg.u q2 (.u p p)).d])), x8, x9] := by
    have a9 := a9 _ rfl
    generalize [p.d, q.d] ++ l ++ [(Pg.u q2 (.u p p)).d] = A at a9 bs ⊢
    generalize wishD L K.d = wsh at a9 ⊢
    generalize prS (dl L) = P at a9 ⊢
    generalize p.d = pd at a9 ⊢
    generalize K.d = kd at a9 ⊢
    simp -implicitDefEqProofs [a9, bs]
  rw [xs_step a1, xs_step a2, xs_step e5, xs_step a4, xs_step a5, xs_step a6]
  rfl
end
theorem plain : ∀ ns : List Int, ns.length ≤ 63 → ∃ out, Dn.callF 2000 T 220 0 [.val (.list (ns.map .int))] = .ok (.val (.bool true)) out := by
  intro ns hl
  obtain ⟨h, hh, e⟩ := hand (W := 2000) (k := 219) (i := 1) T_1 hl (by omega)
  obtain ⟨ρ', f, h', x2, x3, x4, x5, x6, x7, x8, x9, hh', rfl⟩ := for_run (W := 2000) (md := [false]) (en := enK 2000 T 219 .stuck) (tg := .n 2) (ss := [l1, l2, sN, l4, l5, l6])
    (fun _ ρ => LawI (.list (ns.map .int)) ρ) (n := 0) (ds := [.int 0, .int 1, .int 2, .int 3]) (ρ := [.val (.list (ns.map .int)), .own h, .un, .un, .un, .un, .un, .un, .un, .un]) ⟨h, _, _, _, _, _, _, _, _, hh, rfl⟩ fun j d ρ _ i => turn' i
  have rg : rangeD 0 4 = some [.int 0, .int 1, .int 2, .int 3] := by kernel_rfl
  refine ⟨[.val (.list (ns.map .int))], ?_⟩
  rw [callF_eq T_0 rfl]
  simp -implicitDefEqProofs [fd0, b0, fd1, e, fd2, known, rg, f]
end Law
open PySem PySem.W PyProof.Rows
set_option maxRecDepth 100000 in
set_option maxHeartbeats 0 in
theorem PySem.Challenge.cw_alloftype_k05_whole_what_is_no_program_holds : PySem.Challenge.rw_alloftype_k05_whole_what_is_no_program.Holds := by
  w_on; o_law; k_head; (case hw => w_witness2)
  k_fill
  refine Dn.law_walkT (n := 63) (k := 220) (x := "script") (md := Law.fd0.md) (f := Dn.callF 2000 Law.T 220 0) rfl (by decide) rfl ⟨rfl, by decide, by decide⟩ (fun w h Y => by first | exact PySem.W.kIn_of Y | exact PySem.W.km_in_of Y) Law.plain ?F
  case F =>
    intro w mg mb fa h mean KX GT hmg
    refine' Law.all_mk KX GT.g hmg ?axW ?wm2 ?wf1 ?a__law_hand ?a__law_is_known_right ?a__law_library ?a__law_kind ?a__law_draw ?a_wrong_part ?a__law_made ?a__law_deep_thing ?a__law_spoiled ?a__law_is_judged ?a__law_told ?a_is_program ?a__law_atom ?a_is_tuple ?a_is_name ?a_is_kind ?a__law_drops ?a__law_some ?a__law_wild ?a__law_due ?a__law_is ?a_kind_of ?a_has_form ?a_kind_in ?a_atoms_in ?a__law_has_form ?a__law_kindd ?a_check_form ?a_is_integer ?a_is_within ?a_is_called ?a_is_atom ?a__law_is_kind ?a__law_deep_of ?a__law_is_name ?a_law ?l0 ?h0 ?k0 ?l1 ?h1 ?k1 ?l2 ?h2 ?k2 ?l3 ?h3 ?k3 ?l4 ?h4 ?k4 ?l5 ?h5 ?k5 ?l6 ?h6 ?k6 ?l7 ?h7 ?k7 ?l8 ?h8 ?k8 ?l9 ?h9 ?k9 ?l10 ?h10 ?k10 ?l11 ?h11 ?k11 ?l12 ?h12 ?k12 ?l13 ?h13 ?k13 ?l14 ?h14 ?k14 ?l15 ?h15 ?k15 ?l16 ?h16 ?k16 ?l17 ?h17 ?k17 ?l18 ?h18 ?k18 ?l19 ?h19 ?k19 ?l20 ?h20 ?k20 ?l21 ?h21 ?k21 ?l22 ?h22 ?k22 ?l23 ?h23 ?k23 ?l24 ?h24 ?k24 ?l25 ?h25 ?k25 ?l26 ?h26 ?k26 ?l27 ?h27 ?k27 ?l28 ?h28 ?k28 ?l29 ?h29 ?k29 ?l30 ?h30 ?k30 ?l31 ?h31 ?k31 ?l32 ?h32 ?k32 ?l33 ?h33 ?k33 ?l34 ?h34 ?k34 ?l35 ?h35 ?k35 ?l900 ?h900 ?k900 ?l901 ?h901 ?k901 ?ax0 ?X0 ?ax1 ?X1 ?axb ?cfb ?sb0 ?sb1 ?s0_1 ?d0_1 ?s1_1 ?wm1 ?wm3 ?wm4 ?wf2 ?wf3 ?wc1 ?wc2 ?wc3 ?wc4 ?wc5 ?wc6 ?wc7 ?wc8 ?wk1 ?wk2 ?wk3 ?wk4 ?wk5 ?wk6 ?wn1 ?wn2 ?wn3 ?ww1 ?ww2 ?wt0 ?wt1 ?wt2 ?wt3 ?wt4 ?wt5 ?wt6 ?z_ValueError ?z_abs ?z_all ?z_bool ?z_dict ?z_enumerate ?z_int ?z_isinstance ?z_len ?z_list ?z_max ?z_min ?z_range ?z_repr ?z_str ?z_tuple ?v_MOST_NAMES ?v_MOST_LETTERS ?v_LETTERS ?v_MOST_NESTED ?v_MOST_ATOMS ?v_FUN ?v_USE
    (case axW => k_is)
    (case wm2 => k_is)
    (case wf1 => k_is)
    (case a__law_hand => k_is)
    (case a__law_is_known_right => k_is)
    (case a__law_library => k_is)
    (case a__law_kind => k_is)
    (case a__law_draw => k_is)
    (case a_wrong_part => k_is)
    (case a__law_made => k_is)
    (case a__law_deep_thing => k_is)
    (case a__law_spoiled => k_is)
    (case a__law_is_judged => k_is)
    (case a__law_told => k_is)
    (case a_is_program => k_is)
    (case a__law_atom => k_is)
    (case a_is_tuple => k_is)
    (case a_is_name => k_is)
    (case a_is_kind => k_is)
    (case a__law_drops => k_is)
    (case a__law_some => k_is)
    (case a__law_wild => k_is)
    (case a__law_due => k_is)
    (case a__law_is => k_is)
    (case a_kind_of => k_is)
    (case a_has_form => k_is)
    (case a_kind_in => k_is)
    (case a_atoms_in => k_is)
    (case a__law_has_form => k_is)
    (case a__law_kindd => k_is)
    (case a_check_form => k_is)
    (case a_is_integer => k_is)
    (case a_is_within => k_is)
    (case a_is_called => k_is)
    (case a_is_atom => k_is)
    (case a__law_is_kind => k_is)
    (case a__law_deep_of => k_is)
    (case a__law_is_name => k_is)
    (case a_law => k_is)
    (case l0 => k_is)
    (case h0 => k_is)
    (case k0 => k_is)
    (case l1 => k_is)
    (case h1 => k_is)
    (case k1 => k_is)
    (case l2 => k_is)
    (case h2 => k_is)
    (case k2 => k_is)
    (case l3 => k_is)
    (case h3 => k_is)
    (case k3 => k_is)
    (case l4 => k_is)
    (case h4 => k_is)
    (case k4 => k_is)
    (case l5 => k_is)
    (case h5 => k_is)
    (case k5 => k_is)
    (case l6 => k_is)
    (case h6 => k_is)
    (case k6 => k_is)
    (case l7 => k_is)
    (case h7 => k_is)
    (case k7 => k_is)
    (case l8 => k_is)
    (case h8 => k_is)
    (case k8 => k_is)
    (case l9 => k_is)
    (case h9 => k_is)
    (case k9 => k_is)
    (case l10 => k_is)
    (case h10 => k_is)
    (case k10 => k_is)
    (case l11 => k_is)
    (case h11 => k_is)
    (case k11 => k_is)
    (case l12 => k_is)
    (case h12 => k_is)
    (case k12 => k_is)
    (case l13 => k_is)
    (case h13 => k_is)
    (case k13 => k_is)
    (case l14 => k_is)
    (case h14 => k_is)
    (case k14 => k_is)
    (case l15 => k_is)
    (case h15 => k_is)
    (case k15 => k_is)
    (case l16 => k_is)
    (case h16 => k_is)
    (case k16 => k_is)
    (case l17 => k_is)
    (case h17 => k_is)
    (case k17 => k_is)
    (case l18 => k_is)
    (case h18 => k_is)
    (case k18 => k_is)
    (case l19 => k_is)
    (case h19 => k_is)
    (case k19 => k_is)
    (case l20 => k_is)
    (case h20 => k_is)
    (case k20 => k_is)
    (case l21 => k_is)
    (case h21 => k_is)
    (case k21 => k_is)
    (case l22 => k_is)
    (case h22 => k_is)
    (case k22 => k_is)
    (case l23 => k_is)
    (case h23 => k_is)
    (case k23 => k_is)
    (case l24 => k_is)
    (case h24 => k_is)
    (case k24 => k_is)
    (case l25 => k_is)
    (case h25 => k_is)
    (case k25 => k_is)
    (case l26 => k_is)
    (case h26 => k_is)
    (case k26 => k_is)
    (case l27 => k_is)
    (case h27 => k_is)
    (case k27 => k_is)
    (case l28 => k_is)
    (case h28 => k_is)
    (case k28 => k_is)
    (case l29 => k_is)
    (case h29 => k_is)
    (case k29 => k_is)
    (case l30 => k_is)
    (case h30 => k_is)
    (case k30 => k_is)
    (case l31 => k_is)
    (case h31 => k_is)
    (case k31 => k_is)
    (case l32 => k_is)
    (case h32 => k_is)
    (case k32 => k_is)
    (case l33 => k_is)
    (case h33 => k_is)
    (case k33 => k_is)
    (case l34 => k_is)
    (case h34 => k_is)
    (case k34 => k_is)
    (case l35 => k_is)
    (case h35 => k_is)
    (case k35 => k_is)
    (case l900 => k_is)
    (case h900 => k_is)
    (case k900 => k_is)
    (case l901 => k_is)
    (case h901 => k_is)
    (case k901 => k_is)
    (case ax0 => k_is)
    (case X0 => refine' Dn.excls_mk Law.xt0 ?iC ?lI ?cI ?lc ?lv ?lf ?lx ?supG ?opq ?sup ?subB ?mro ?lC ?rV ?sa ?exC ?tyC ?kC ?tI ?hd ?hg ?hk ?ha ?hn ?ht ?hm ?fl; (case iC => k_is); (case lI => k_is); (case cI => k_is); (case lc => k_is); (case lv => rfl); (case lf => rfl); (case lx => k_is); (case supG => k_is); (case opq => k_is); (case sup => ks_is); (case subB => k_is); (case mro => k_is); (case lC => k_is); (case rV => decide +kernel); (case sa => k_is); (case exC => k_is); (case tyC => k_is); (case kC => k_is); (case tI => k_is); (case hd => k_is); (case hg => k_is); (case hk => k_is); (case ha => k_is); (case hn => k_is); (case ht => k_is); (case hm => k_is); (case fl => intro f hf; cases hf; k_is))
    (case ax1 => k_is)
    (case X1 => refine' Dn.excls_mk Law.xt1 ?iC ?lI ?cI ?lc ?lv ?lf ?lx ?supG ?opq ?sup ?subB ?mro ?lC ?rV ?sa ?exC ?tyC ?kC ?tI ?hd ?hg ?hk ?ha ?hn ?ht ?hm ?fl; (case iC => k_is); (case lI => k_is); (case cI => k_is); (case lc => k_is); (case lv => rfl); (case lf => rfl); (case lx => k_is); (case supG => k_is); (case opq => k_is); (case sup => ks_is); (case subB => k_is); (case mro => k_is); (case lC => k_is); (case rV => decide +kernel); (case sa => k_is); (case exC => k_is); (case tyC => k_is); (case kC => k_is); (case tI => k_is); (case hd => k_is); (case hg => k_is); (case hk => k_is); (case ha => k_is); (case hn => k_is); (case ht => k_is); (case hm => k_is); (case fl => intro f hf; cases hf))
    (case axb => k_is)
    (case cfb => exact ⟨by k_is, by k_is, by k_is⟩)
    (case sb0 => k_is)
    (case sb1 => k_is)
    (case s0_1 => k_is)
    (case d0_1 => decide)
    (case s1_1 => k_is)
    (case wm1 => k_is)
    (case wm3 => k_is)
    (case wm4 => k_is)
    (case wf2 => k_is)
    (case wf3 => k_is)
    (case wc1 => k_is)
    (case wc2 => k_is)
    (case wc3 => k_is)
    (case wc4 => k_is)
    (case wc5 => k_is)
    (case wc6 => k_is)
    (case wc7 => k_is)
    (case wc8 => k_is)
    (case wk1 => k_is)
    (case wk2 => k_is)
    (case wk3 => k_is)
    (case wk4 => k_is)
    (case wk5 => k_is)
    (case wk6 => k_is)
    (case wn1 => k_is)
    (case wn2 => k_is)
    (case wn3 => k_is)
    (case ww1 => k_is)
    (case ww2 => k_is)
    (case wt0 => k_is)
    (case wt1 => k_is)
    (case wt2 => k_is)
    (case wt3 => k_is)
    (case wt4 => k_is)
    (case wt5 => k_is)
    (case wt6 => k_is)
    (case z_ValueError => k_is)
    (case z_abs => k_is)
    (case z_all => k_is)
    (case z_bool => k_is)
    (case z_dict => k_is)
    (case z_enumerate => k_is)
    (case z_int => k_is)
    (case z_isinstance => k_is)
    (case z_len => k_is)
    (case z_list => k_is)
    (case z_max => k_is)
    (case z_min => k_is)
    (case z_range => k_is)
    (case z_repr => k_is)
    (case z_str => k_is)
    (case z_tuple => k_is)
    (case v_MOST_NAMES => k_is)
    (case v_MOST_LETTERS => k_is)
    (case v_LETTERS => k_is)
    (case v_MOST_NESTED => k_is)
    (case v_MOST_ATOMS => k_is)
    (case v_FUN => k_is)
    (case v_USE => k_is)
