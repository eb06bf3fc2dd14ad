import PyProof.Rows.All
import Wide.All
import OpenK.AllK
import Wide.FinOn
import HandS.ForMost
import HandS.Flow
import HandS.TupAny
import HandS.Style
import HandS.Deep
import HandS.IsInst
import HandS.TryOnly
import PySem.Challenge.RW_alloftype_k02_whole_parts_and_ends
set_option Elab.async false
set_option linter.all false
set_option maxRecDepth 100000
set_option maxHeartbeats 4000000
/-! Den1: a small language over plain data, its evaluator -/
namespace Dn
open PySem

/-- what a slot holds: nothing; data that never changes; a list that this slot alone holds -/
inductive Slot where
  | un | val (d : PyData) | own (d : PyData)
abbrev Env := List Slot
/-- an expression's raw value: data; a new list that nobody holds; the list that a slot holds -/
inductive EV where
  | val (d : PyData) | fr (d : PyData) | al (i : Nat)
/-- read: data or a slot -/
inductive RV where
  | dat (d : PyData) | al (i : Nat)
structure Exc where
  cls : Nat
  fld : PyData
inductive Res (α : Type) where
  | ok (a : α) (ρ : Env) | exc (x : Exc) (ρ : Env) | stuck
def Res.bind {α β : Type} (r : Res α) (f : α → Env → Res β) : Res β := match r with
  | .ok a ρ => f a ρ
  | .exc x ρ => .exc x ρ
  | .stuck => .stuck
@[simp] theorem Res.bind_ok {α β : Type} (a : α) (ρ : Env) (f : α → Env → Res β) : (Res.ok a ρ).bind f = f a ρ := rfl
@[simp] theorem Res.bind_exc {α β : Type} (x : Exc) (ρ : Env) (f : α → Env → Res β) : (Res.exc x ρ).bind f = .exc x ρ := rfl
@[simp] theorem Res.bind_stuck {α β : Type} (f : α → Env → Res β) : (Res.stuck : Res α).bind f = .stuck := rfl
def on {α β : Type} (o : Option α) (f : α → Res β) : Res β := match o with
  | some a => f a
  | none => .stuck
@[simp] theorem on_some {α β : Type} (a : α) (f : α → Res β) : on (some a) f = f a := rfl
@[simp] theorem on_none {α β : Type} (f : α → Res β) : on none f = .stuck := rfl
/-- a call: its value (data or new), the parameters' slots at the end -/
inductive CRes where
  | ok (e : EV) (outs : List Slot) | exc (x : Exc) (outs : List Slot) | stuck
abbrev Calls := Nat → List Slot → CRes

def slotD : Slot → Option PyData
  | .un => none
  | .val d => some d
  | .own d => some d
def deref (ρ : Env) : RV → Option PyData
  | .dat d => some d
  | .al i => (ρ[i]?).bind slotD
/-- raw to read: a new list is locked at once -/
def toR : EV → RV
  | .val d => .dat d
  | .fr d => .dat d
  | .al i => .al i
/-- raw to data: a slot's list is locked -/
def settle (e : EV) (ρ : Env) : Res PyData := match e with
  | .val d => .ok d ρ
  | .fr d => .ok d ρ
  | .al i => match ρ[i]? with
    | some (.val d) => .ok d ρ
    | some (.own d) => .ok d (ρ.set i (.val d))
    | _ => .stuck

inductive BOp where
  | add | sub | mul | fdiv | mod | pow
  deriving DecidableEq
inductive COp where
  | eq | ne | lt | le | gt | ge | isin | notin | is | isnot
  deriving DecidableEq
inductive Ty where
  | int | str | bool | tuple | list | dict
  deriving DecidableEq
inductive Blt where
  | len | abs | int | tuple | list | all | any | repr | sum | max | min | sorted | str
  deriving DecidableEq
inductive Tg where
  | n (i : Nat) | t (is : List Nat)
mutual
inductive ME where
  | c (d : PyData)
  | v (i : Nat)
  | tup (es : List ME) | lst (es : List ME)
  | bin (o : BOp) (a b : ME)
  | neg (a : ME)
  | cmp (o : COp) (a b : ME)
  | chain (o o' : COp) (a b c : ME)
  | and (a b : ME) | or (a b : ME) | not (a : ME)
  | ite (c a b : ME)
  | idx (a i : ME)
  | sl (a : ME) (lo hi : MP)
  | rev (a : ME)
  | isi (a : ME) (ts : List Ty)
  | call (f : Nat) (es : List ME)
  | blt (b : Blt) (es : List ME)
  | lc (ws : List Nat) (tg : Tg) (it : MI) (conds : List ME) (elt : ME)
  | pop (i : Nat) | popAt (i : Nat) (e : ME)
inductive MP where
  | non | ex (e : ME)
inductive MI where
  | ex (e : ME) | range1 (e : ME) | range2 (a b : ME) | enum (e : ME) | zip (a b : ME)
end
inductive MS where
  | expr (e : ME)
  | set (i : Nat) (e : ME)
  | unpack (is : List Nat) (e : ME)
  | par (i j : Nat) (a b : ME)
  | aug (i : Nat) (o : BOp) (e : ME)
  | put (i : Nat) (k e : ME)
  | app (i : Nat) (e : ME)
  | ret (e : ME)
  | ite (c : ME) (a b : List MS)
  | while (c : ME) (b : List MS)
  | for (tg : Tg) (it : MI) (b : List MS)
  | pass | brk | cont
  | raise (c : Nat) (es : List ME)

/-! ### operations on data -/
def szl : Nat := 16777216
def truthy : PyData → Option Bool
  | .none => some false
  | .bool b => some b
  | .int i => some (i != 0)
  | .str x => if x.length ≤ szl then some ((x.length : Int) != 0) else none
  | .list l => some (!l.isEmpty)
  | .tuple l => some (!l.isEmpty)
  | .dict _ => none
def binD : BOp → PyData → PyData → Option EV
  | .add, .int a, .int b => some (.val (.int (a + b)))
  | .add, .str a, .str b => if a.length + b.length ≤ szl then some (.val (.str (a ++ b))) else none
  | .add, .list a, .list b => if a.length + b.length ≤ szl then some (.fr (.list (a ++ b))) else none
  | .add, .tuple a, .tuple b => if a.length + b.length ≤ szl then some (.val (.tuple (a ++ b))) else none
  | .sub, .int a, .int b => some (.val (.int (a - b)))
  | .mul, .int a, .int b => if (-(2 ^ 64) < a ∧ a < 2 ^ 64) ∨ (-(2 ^ 64) < b ∧ b < 2 ^ 64) then some (.val (.int (a * b))) else none
  | .fdiv, .int a, .int b => if 0 < b ∧ b < 1073741824 then some (.val (.int (a / b))) else none
  | .mod, .int a, .int b => if 0 < b then some (.val (.int (a % b))) else none
  | .pow, .int a, .int b => if 0 ≤ b ∧ b ≤ 1000000 ∧ a.natAbs < 2 ^ 64 then some (.val (.int (a ^ b.toNat))) else none
  | _, _, _ => none
def flatD : PyData → Bool
  | .none => true | .bool _ => true | .int _ => true | .str _ => true
  | _ => false
def eqT : PyData → PyData → Option Bool
  | .str x, .str y => some (x == y)
  | _, _ => none
def eqD (a b : PyData) : Option Bool := match eqT a b with
  | some r => some r
  | none => if a.canLay0 = true ∧ b.canLay0 = true ∧ min a.depth b.depth ≤ 64 then some (PyData.eqv a b) else none
def inStr (i j : Str) : Bool := !(Builtin.Str.occurrences j i 0 j.length 1).isEmpty
def inD (a : PyData) : PyData → Option Bool
  | .str j => match a with
    | .str i => some (inStr i j)
    | _ => none
  | .list l => if SeqAt.shaped a = true ∧ SeqAt.shaped (.list l) = true then some (l.any fun y => PyData.eqv y a) else none
  | .tuple l => if flatD a = true ∧ l.all flatD = true then some (l.any fun y => PyData.eqv y a) else none
  | _ => none
def isNone : PyData → Bool
  | .none => true
  | _ => false
def isD (a : PyData) : PyData → Option Bool
  | .none => some (isNone a)
  | .bool c => match a with
    | .bool b => some (b == c)
    | _ => none
  | _ => none
def cmpD : COp → PyData → PyData → Option Bool
  | .eq, a, b => eqD a b
  | .ne, a, b => (eqD a b).map (!·)
  | .lt, .int a, .int b => some (decide (a < b))
  | .le, .int a, .int b => some (decide (a ≤ b))
  | .gt, .int a, .int b => some (decide (b < a))
  | .ge, .int a, .int b => some (decide (b ≤ a))
  | .isin, a, b => inD a b
  | .notin, a, b => (inD a b).map (!·)
  | .is, a, b => isD a b
  | .isnot, a, b => (isD a b).map (!·)
  | _, _, _ => none
def isTy : PyData → Ty → Bool
  | .int _, .int => true
  | .bool _, .int => true
  | .bool _, .bool => true
  | .str _, .str => true
  | .tuple _, .tuple => true
  | .list _, .list => true
  | .dict _, .dict => true
  | _, _ => false
def idxD : PyData → PyData → Option PyData
  | .list l, .int i => L2.atI l i
  | .tuple l, .int i => L2.atI l i
  | .str x, .int i => if x.length ≤ szl then (L2.atI x.cps.toList i).map fun c => .str ⟨#[c]⟩ else none
  | _, _ => none
def cutL {α : Type} (xs : List α) (lo hi : Option Int) : List α := (xs.drop (HT.sIx xs.length 0 lo)).take (HT.sIx xs.length xs.length hi - HT.sIx xs.length 0 lo)
def slD (a : PyData) (lo hi : Option Int) : Option EV := match a with
  | .list l => some (.fr (.list (cutL l lo hi)))
  | .tuple l => some (.val (.tuple (cutL l lo hi)))
  | .str x => if x.length ≤ szl then some (.val (.str ⟨(cutL x.cps.toList lo hi).toArray⟩)) else none
  | _ => none
def revD : PyData → Option EV
  | .list l => some (.fr (.list l.reverse))
  | .tuple l => some (.val (.tuple l.reverse))
  | _ => none
def boolsOf : List PyData → Option (List Bool)
  | [] => some []
  | .bool b :: r => (boolsOf r).map (b :: ·)
  | _ => none
def bltD : Blt → List PyData → Option EV
  | .len, [.str x] => if x.length ≤ szl then some (.val (.int x.length)) else none
  | .len, [.list l] => some (.val (.int l.length))
  | .len, [.tuple l] => some (.val (.int l.length))
  | .abs, [.int i] => some (.val (.int (if i < 0 then -i else i)))
  | .int, [.int i] => some (.val (.int i))
  | .int, [.bool b] => some (.val (.int (if b then 1 else 0)))
  | .tuple, [.list l] => some (.val (.tuple l))
  | .tuple, [.tuple l] => some (.val (.tuple l))
  | .list, [.list l] => some (.fr (.list l))
  | .list, [.tuple l] => some (.fr (.list l))
  | .all, [.list l] => (boolsOf l).map fun bs => .val (.bool (bs.all id))
  | .any, [.list l] => (boolsOf l).map fun bs => .val (.bool (bs.any id))
  | .max, [.int i, .int j] => some (.val (.int (if j > i then j else i)))
  | .min, [.int i, .int j] => some (.val (.int (if j < i then j else i)))
  | .repr, [d] => if d.showable = true ∧ d.hasDict = false ∧ d.shown.length ≤ szl ∧ d.depth ≤ 64 then some (.val (.str d.shown)) else none
  | _, _ => none

/-! ### evaluation -/
def ofO {α : Type} (o : Option α) (ρ : Env) : Res α := match o with
  | some a => .ok a ρ
  | none => .stuck
def wipeS (ws : List Nat) (ρ : Env) : Env := match ws with
  | [] => ρ
  | w :: r => (wipeS r ρ).set w .un
/-- the slots at ws as they were in ρ -/
def restore (ws : List Nat) (ρ ρ' : Env) : Env := match ws with
  | [] => ρ'
  | w :: r => (restore r ρ ρ').set w ((ρ[w]?).getD .un)
def setAll : List Nat → List PyData → Env → Option Env
  | [], [], ρ => some ρ
  | i :: is, d :: ds, ρ => setAll is ds (ρ.set i (.val d))
  | _, _, _ => none
/-- is the slot free to be set: no parameter that is handed in as a slot -/
def free (md : List Bool) (i : Nat) : Bool := (md[i]?).getD false == false
def assignT (md : List Bool) (tg : Tg) (d : PyData) (ρ : Env) : Option Env := match tg with
  | .n i => if free md i = true then some (ρ.set i (.val d)) else none
  | .t is => if is.all (free md) = true then match d with
    | .tuple ds => setAll is ds ρ
    | .list ds => setAll is ds ρ
    | _ => none
    else none
/-- the items of what is walked -/
def itemsD : PyData → Option (List PyData)
  | .list l => some l
  | .tuple l => some l
  | .str x => some (x.cps.toList.map fun c => .str ⟨#[c]⟩)
  | _ => none
def small (i : Int) : Bool := decide (-(2 ^ 62) ≤ i ∧ i < 2 ^ 62)
def rangeD (lo hi : Int) : Option (List PyData) := if small lo = true ∧ small hi = true then some ((List.range (hi - lo).toNat).map fun (j : Nat) => PyData.int (lo + (j : Int))) else none

def isOwn (ρ : Env) (i : Nat) : Bool := match ρ[i]? with
  | some (.own _) => true
  | _ => false
/-- how arguments are handed in: data, or the slot's list -/
inductive AV where
  | dat (d : PyData) | sl (i : Nat)
def asArg (m : Bool) (x : EV) (ρ : Env) : Res AV := match m, x with
  | true, .al i => .ok (.sl i) ρ
  | _, _ => (settle x ρ).bind fun d ρ => .ok (.dat d) ρ
def argSlots (ρ : Env) : List AV → Option (List Slot)
  | [] => some []
  | .dat d :: r => (argSlots ρ r).map (.val d :: ·)
  | .sl i :: r => match ρ[i]? with
    | some (.own d) => if (r.any fun a => match a with | .sl j => i == j | _ => false) = true then none else (argSlots ρ r).map (.own d :: ·)
    | some (.val d) => (argSlots ρ r).map (.val d :: ·)
    | _ => none
/-- behind a call: the slots that were handed in -/
def putBack : List AV → List Slot → Env → Env
  | .sl i :: r, s :: ss, ρ => putBack r ss (match ρ[i]? with | some (.own _) => ρ.set i s | _ => ρ)
  | _ :: r, _ :: ss, ρ => putBack r ss ρ
  | _, _, ρ => ρ

/-- a comprehension's turns -/
def compL (as : PyData → Env → Res Bool) (elt : Env → Res PyData) (wp : Env → Env) : List PyData → List PyData → Env → Res (List PyData)
  | [], acc, ρ => .ok acc ρ
  | d :: ds, acc, ρ => (as d ρ).bind fun b ρ => if b = true then (elt ρ).bind fun y ρ => if acc.length < szl then compL as elt wp ds (acc ++ [y]) (wp ρ) else .stuck
    else compL as elt wp ds acc (wp ρ)

section
variable (md : List Bool) (modes : Nat → List Bool) (call : Calls) 
mutual
/-- raw -/
def evalE : ME → Env → Res EV
  | .c d, ρ => .ok (.val d) ρ
  | .v i, ρ => match ρ[i]? with
    | some (.val d) => .ok (.val d) ρ
    | some (.own _) => .ok (.al i) ρ
    | _ => .stuck
  | .tup es, ρ => (evalVs es ρ).bind fun ds ρ => if ds.length ≤ szl then .ok (.val (.tuple ds)) ρ else .stuck
  | .lst es, ρ => (evalVs es ρ).bind fun ds ρ => if ds.length ≤ szl then .ok (.fr (.list ds)) ρ else .stuck
  | .bin o a b, ρ => (evalE a ρ).bind fun x ρ => (evalE b ρ).bind fun y ρ => on (deref ρ (toR x)) fun x => on (deref ρ (toR y)) fun y => ofO (binD o x y) ρ
  | .neg a, ρ => (evalE a ρ).bind fun x ρ => match x with
    | .val (.int i) => .ok (.val (.int (-i))) ρ
    | _ => .stuck
  | .cmp o a b, ρ => (evalE a ρ).bind fun x ρ => (evalE b ρ).bind fun y ρ => on (deref ρ (toR x)) fun x => on (deref ρ (toR y)) fun y => on (cmpD o x y) fun b => .ok (.val (.bool b)) ρ
  | .chain o o' a b c, ρ => (evalE a ρ).bind fun x ρ => (evalE b ρ).bind fun y ρ => on (deref ρ (toR x)) fun x' => on (deref ρ (toR y)) fun y' => on (cmpD o x' y') fun k => if k = true then
      (evalE c ρ).bind fun z ρ => on (deref ρ (toR y)) fun y => on (deref ρ (toR z)) fun z => on (cmpD o' y z) fun b => .ok (.val (.bool b)) ρ
      else .ok (.val (.bool false)) ρ
  | .and a b, ρ => (evalE a ρ).bind fun x ρ => on ((deref ρ (toR x)).bind truthy) fun k => if k = true then evalE b ρ else .ok x ρ
  | .or a b, ρ => (evalE a ρ).bind fun x ρ => on ((deref ρ (toR x)).bind truthy) fun k => if k = true then .ok x ρ else evalE b ρ
  | .not a, ρ => (evalE a ρ).bind fun x ρ => on ((deref ρ (toR x)).bind truthy) fun k => .ok (.val (.bool (!k))) ρ
  | .ite c a b, ρ => (evalE c ρ).bind fun x ρ => on ((deref ρ (toR x)).bind truthy) fun k => if k = true then evalE a ρ else evalE b ρ
  | .idx a i, ρ => (evalE a ρ).bind fun x ρ => (evalE i ρ).bind fun y ρ => on (deref ρ (toR x)) fun x => on (deref ρ (toR y)) fun y => on (idxD x y) fun d => .ok (.val d) ρ
  | .sl a lo hi, ρ => (evalE a ρ).bind fun x ρ => (evalP lo ρ).bind fun l ρ => (evalP hi ρ).bind fun h ρ => on (deref ρ (toR x)) fun x => ofO (slD x l h) ρ
  | .rev a, ρ => (evalE a ρ).bind fun x ρ => on (deref ρ (toR x)) fun x => ofO (revD x) ρ
  | .isi a ts, ρ => (evalE a ρ).bind fun x ρ => on (deref ρ (toR x)) fun x => .ok (.val (.bool (ts.any (isTy x)))) ρ
  | .call f es, ρ => (evalAs (modes f) es ρ).bind fun as ρ => on (argSlots ρ as) fun ss => match call f ss with
      | .ok (.al _) _ => .stuck
      | .ok e outs => .ok e (putBack as outs ρ)
      | .exc x outs => .exc x (putBack as outs ρ)
      | .stuck => .stuck
  | .blt b es, ρ => (evalRs es ρ).bind fun xs ρ => on (xs.mapM (deref ρ)) fun ds => ofO (bltD b ds) ρ
  | .lc ws tg it conds elt, ρ => (evalI it ρ).bind fun ds ρ => if ws.all (free md) = true then
      (compL (fun d ρ => on (assignT md tg d ρ) fun ρ => evalCs conds ρ) (fun ρ => (evalE elt ρ).bind settle) (wipeS ws) ds [] (wipeS ws ρ)).bind fun l ρ' => .ok (.fr (.list l)) (restore ws ρ ρ')
      else .stuck
  | .pop i, ρ => match ρ[i]? with
    | some (.own (.list l)) => on l.getLast? fun d => .ok (.val d) (ρ.set i (.own (.list l.dropLast)))
    | _ => .stuck
  | .popAt i e, ρ => if isOwn ρ i = true then ((evalE e ρ).bind settle).bind fun k ρ => match k, ρ[i]? with
    | .int k, some (.own (.list l)) => if -(2 ^ 63) ≤ k ∧ k < 2 ^ 63 then on (L2.ixN l.length k) fun j => on l[j]? fun d => .ok (.val d) (ρ.set i (.own (.list (l.eraseIdx j)))) else .stuck
    | _, _ => .stuck
    else .stuck
/-- a slice's part -/
def evalP : MP → Env → Res (Option Int)
  | .non, ρ => .ok none ρ
  | .ex e, ρ => ((evalE e ρ).bind settle).bind fun d ρ => match d with
    | .int i => .ok (some i) ρ
    | _ => .stuck
/-- data, one after another -/
def evalVs : List ME → Env → Res (List PyData)
  | [], ρ => .ok [] ρ
  | e :: es, ρ => ((evalE e ρ).bind settle).bind fun d ρ => (evalVs es ρ).bind fun ds ρ => .ok (d :: ds) ρ
/-- read -/
def evalRs : List ME → Env → Res (List RV)
  | [], ρ => .ok [] ρ
  | e :: es, ρ => (evalE e ρ).bind fun x ρ => (evalRs es ρ).bind fun xs ρ => .ok (toR x :: xs) ρ
/-- arguments by the modes (true: a name's list is handed in as it is) -/
def evalAs (ms : List Bool) : List ME → Env → Res (List AV)
  | [], ρ => .ok [] ρ
  | e :: es, ρ => ((evalE e ρ).bind (asArg (ms.head?.getD false))).bind fun a ρ => (evalAs ms.tail es ρ).bind fun r ρ => .ok (a :: r) ρ
/-- all tests -/
def evalCs : List ME → Env → Res Bool
  | [], ρ => .ok true ρ
  | e :: es, ρ => (evalE e ρ).bind fun x ρ => on ((deref ρ (toR x)).bind truthy) fun k => if k = true then evalCs es ρ else .ok false ρ
/-- what is walked -/
def evalI : MI → Env → Res (List PyData)
  | .ex e, ρ => ((evalE e ρ).bind settle).bind fun d ρ => ofO (itemsD d) ρ
  | .range1 e, ρ => ((evalE e ρ).bind settle).bind fun d ρ => match d with
    | .int i => ofO (rangeD 0 i) ρ
    | _ => .stuck
  | .range2 a b, ρ => ((evalE a ρ).bind settle).bind fun d ρ => ((evalE b ρ).bind settle).bind fun d' ρ => match d, d' with
    | .int i, .int j => ofO (rangeD i j) ρ
    | _, _ => .stuck
  | .enum e, ρ => ((evalE e ρ).bind settle).bind fun d ρ => match d with
    | .list l => .ok (l.zipIdx.map fun (d, j) => .tuple [.int j, d]) ρ
    | _ => .stuck
  | .zip a b, ρ => ((evalE a ρ).bind settle).bind fun d ρ => ((evalE b ρ).bind settle).bind fun d' ρ => match d, d' with
    | .list l, .list l' => .ok ((l.zip l').map fun (d, d') => .tuple [d, d']) ρ
    | _, _ => .stuck
end
end

inductive Fl where
  | nx | brk | cnt | ret (e : EV)
/-- a slot's list does not wait: it is locked -/
def still (e : EV) (ρ : Env) : Res EV := match e with
  | .al i => (settle (.al i) ρ).bind fun d ρ => .ok (.val d) ρ
  | .val d => .ok (.val d) ρ
  | .fr d => .ok (.fr d) ρ
/-- into a slot: a new list is this slot's own -/
def putS (i : Nat) (e : EV) (ρ : Env) : Res Unit := match e with
  | .val d => .ok () (ρ.set i (.val d))
  | .fr d => .ok () (ρ.set i (.own d))
  | .al _ => .stuck
/-- name op= value, of ints and texts -/
def augD : BOp → PyData → PyData → Option PyData
  | .add, .int a, .int b => some (.int (a + b))
  | .add, .str a, .str b => if a.length + b.length ≤ szl then some (.str (a ++ b)) else none
  | .sub, .int a, .int b => some (.int (a - b))
  | .mul, .int a, .int b => if (-(2 ^ 64) < a ∧ a < 2 ^ 64) ∨ (-(2 ^ 64) < b ∧ b < 2 ^ 64) then some (.int (a * b)) else none
  | .fdiv, .int a, .int b => if 0 < b ∧ b < 1073741824 then some (.int (a / b)) else none
  | .mod, .int a, .int b => if 0 < b then some (.int (a % b)) else none
  | _, _, _ => none
/-- a for's turns -/
def forL (as : PyData → Env → Option Env) (body : Env → Res Fl) : List PyData → Env → Res Fl
  | [], ρ => .ok .nx ρ
  | d :: ds, ρ => on (as d ρ) fun ρ => (body ρ).bind fun f ρ => match f with
      | .nx => forL as body ds ρ
      | .cnt => forL as body ds ρ
      | .brk => .ok .nx ρ
      | .ret e => .ok (.ret e) ρ
/-- a while's turns, at most n -/
def whileL (test : Env → Res Bool) (body : Env → Res Fl) : Nat → Env → Res Fl
  | 0, _ => .stuck
  | n + 1, ρ => (test ρ).bind fun b ρ => if b = true then (body ρ).bind fun f ρ => match f with
      | .nx => whileL test body n ρ
      | .cnt => whileL test body n ρ
      | .brk => .ok .nx ρ
      | .ret e => .ok (.ret e) ρ
    else .ok .nx ρ
section
variable (W : Nat) (md : List Bool) (modes : Nat → List Bool) (call : Calls)
def evalT (c : ME) (ρ : Env) : Res Bool := (evalE md modes call c ρ).bind fun x ρ => on ((deref ρ (toR x)).bind truthy) fun b => .ok b ρ
mutual
def execS : MS → Env → Res Fl
  | .expr e, ρ => (evalE md modes call e ρ).bind fun _ ρ => .ok .nx ρ
  | .set i e, ρ => if free md i = true then ((evalE md modes call e ρ).bind still).bind fun x ρ => (putS i x ρ).bind fun _ ρ => .ok .nx ρ else .stuck
  | .unpack is e, ρ => ((evalE md modes call e ρ).bind settle).bind fun d ρ => on (assignT md (.t is) d ρ) fun ρ => .ok .nx ρ
  | .par i j a b, ρ => if free md i = true ∧ free md j = true then ((evalE md modes call a ρ).bind still).bind fun x ρ => ((evalE md modes call b ρ).bind still).bind fun y ρ =>
      (putS i x ρ).bind fun _ ρ => (putS j y ρ).bind fun _ ρ => .ok .nx ρ
    else .stuck
  | .aug i o e, ρ => if free md i = true then match ρ[i]? with
    | some (.val x) => ((evalE md modes call e ρ).bind settle).bind fun y ρ => on (augD o x y) fun z => .ok .nx (ρ.set i (.val z))
    | _ => .stuck
    else .stuck
  | .put i k e, ρ => ((evalE md modes call e ρ).bind settle).bind fun d ρ => if isOwn ρ i = true then ((evalE md modes call k ρ).bind settle).bind fun n ρ => match n, ρ[i]? with
    | .int n, some (.own (.list l)) => on (L2.ixN l.length n) fun j => .ok .nx (ρ.set i (.own (.list (l.set j d))))
    | _, _ => .stuck
    else .stuck
  | .app i e, ρ => if isOwn ρ i = true then ((evalE md modes call e ρ).bind settle).bind fun d ρ => match ρ[i]? with
    | some (.own (.list l)) => if l.length < szl then .ok .nx (ρ.set i (.own (.list (l ++ [d])))) else .stuck
    | _ => .stuck
    else .stuck
  | .ret e, ρ => (evalE md modes call e ρ).bind fun x ρ => .ok (.ret x) ρ
  | .ite c a b, ρ => (evalT md modes call c ρ).bind fun k ρ => if k = true then execSs a ρ else execSs b ρ
  | .while c b, ρ => whileL (evalT md modes call c) (execSs b) W ρ
  | .for tg it b, ρ => (evalI md modes call it ρ).bind fun ds ρ => forL (assignT md tg) (execSs b) ds ρ
  | .pass, ρ => .ok .nx ρ
  | .brk, ρ => .ok .brk ρ
  | .cont, ρ => .ok .cnt ρ
  | .raise _ _, _ => .stuck
def execSs : List MS → Env → Res Fl
  | [], ρ => .ok .nx ρ
  | s :: ss, ρ => (execS s ρ).bind fun f ρ => match f with
    | .nx => execSs ss ρ
    | f => .ok f ρ
end
end
/-- a def -/
structure FD where
  np : Nat
  ns : Nat
  md : List Bool
  body : List MS
def isVal : Slot → Bool
  | .un => false
  | _ => true
/-- the parameters' slots at the end: each holds something -/
def outs (np : Nat) (ρ : Env) (f : List Slot → CRes) : CRes := if np ≤ ρ.length ∧ (ρ.take np).all isVal = true then f (ρ.take np) else .stuck
/-- what goes back: a parameter's list is locked, the def's own one is handed over -/
def back (np : Nat) (e : EV) (ρ : Env) : CRes := match e with
  | .val d => outs np ρ (.ok (.val d))
  | .fr d => outs np ρ (.ok (.fr d))
  | .al i => if i < np then match settle (.al i) ρ with
      | .ok d ρ => outs np ρ (.ok (.val d))
      | _ => .stuck
    else match ρ[i]? with
      | some (.own d) => outs np ρ (.ok (.fr d))
      | some (.val d) => outs np ρ (.ok (.val d))
      | _ => .stuck
def runF (W : Nat) (modes : Nat → List Bool) (call : Calls) (fd : FD) (ss : List Slot) : CRes :=
  if ss.length = fd.np then match execSs W fd.md modes call fd.body (ss ++ List.replicate (fd.ns - fd.np) .un) with
    | .ok .nx ρ => back fd.np (.val .none) ρ
    | .ok (.ret e) ρ => back fd.np e ρ
    | .exc x ρ => outs fd.np ρ (.exc x)
    | _ => .stuck
  else .stuck
def callF (W : Nat) (T : List FD) : Nat → Calls
  | 0 => fun _ _ => .stuck
  | k + 1 => fun f ss => match T[f]? with
    | some fd => runF W (fun g => ((T[g]?).map (·.md)).getD []) (callF W T k) fd ss
    | none => .stuck
end Dn
/-! Den2: what data is in a heap; a def's slots; readings -/
namespace Dn
open PySem PySem.Spec PyProof.Rows L2

abbrev St := L2.St
/-! ### heaps -/
/-- a list that never changes -/
def FzL (K : PySem.W.Frag) (H : Hp) (a : Addr) (xs : List V) : Prop :=
  (∃ o, H a = some (.frz o (.lst xs))) ∨
    ∃ (o : Obj) (its : Array Value) (n : Nat), K.lookup a = some o ∧ o.cls = .type "list" ∧ o.dict = none ∧ o.data = .seq its n ∧ its.size ≤ sizeLine ∧ Vals xs its.toList
theorem FzL.sq {K : PySem.W.Frag} {H : Hp} {a : Addr} {xs : List V} (h : FzL K H a xs) : SqL K H a xs := by
  rcases h with h | h
  · exact .inl (.inr h)
  · exact .inr h
/-- what never changes is kept -/
structure Ext (H H' : Hp) : Prop where
  tup : ∀ b xs, H b = some (.tup xs) → H' b = some (.tup xs)
  frz : ∀ b o u, H b = some (.frz o u) → H' b = some (.frz o u)
theorem Ext.refl (H : Hp) : Ext H H := ⟨fun _ _ h => h, fun _ _ _ h => h⟩
theorem Ext.trans {H H1 H2 : Hp} (a : Ext H H1) (b : Ext H1 H2) : Ext H H2 := ⟨fun c xs h => b.tup c xs (a.tup c xs h), fun c o u h => b.frz c o u (a.frz c o u h)⟩
theorem Ext.fz {K : PySem.W.Frag} {H H' : Hp} {a : Addr} {xs : List V} (e : Ext H H') (h : FzL K H a xs) : FzL K H' a xs := by
  rcases h with ⟨o, h⟩ | h
  · exact .inl ⟨o, e.frz _ _ _ h⟩
  · exact .inr h
theorem Ext.sqt {K : PySem.W.Frag} {H H' : Hp} {a : Addr} {xs : List V} (e : Ext H H') (h : SqT K H a xs) : SqT K H' a xs := by
  rcases h with (h | ⟨o, h⟩) | h
  · exact .inl (.inl (e.tup _ _ h))
  · exact .inl (.inr ⟨o, e.frz _ _ _ h⟩)
  · exact .inr h
mutual
inductive Rep (K : PySem.W.Frag) (H : Hp) : V → PyData → Prop
  | non : Rep K H .non .none
  | bl (b : Bool) : Rep K H (.bl b) (.bool b)
  | int (i : Int) : Rep K H (.int i) (.int i)
  | str (x : Str) : Rep K H (.str x) (.str x)
  | lst {a : Addr} {xs : List V} {ds : List PyData} : FzL K H a xs → Reps K H xs ds → Rep K H (.ref a) (.list ds)
  | tup {a : Addr} {xs : List V} {ds : List PyData} : SqT K H a xs → Reps K H xs ds → Rep K H (.ref a) (.tuple ds)
inductive Reps (K : PySem.W.Frag) (H : Hp) : List V → List PyData → Prop
  | nil : Reps K H [] []
  | cons {v : V} {vs : List V} {d : PyData} {ds : List PyData} : Rep K H v d → Reps K H vs ds → Reps K H (v :: vs) (d :: ds)
end
section
variable {K : PySem.W.Frag} {H H' : Hp}
mutual
theorem Rep.mono (e : Ext H H') : ∀ {v : V} {d : PyData}, Rep K H v d → Rep K H' v d
  | _, _, .non => .non
  | _, _, .bl b => .bl b
  | _, _, .int i => .int i
  | _, _, .str x => .str x
  | _, _, .lst h r => .lst (e.fz h) (Reps.mono e r)
  | _, _, .tup h r => .tup (e.sqt h) (Reps.mono e r)
theorem Reps.mono (e : Ext H H') : ∀ {vs : List V} {ds : List PyData}, Reps K H vs ds → Reps K H' vs ds
  | _, _, .nil => .nil
  | _, _, .cons r rs => .cons (Rep.mono e r) (Reps.mono e rs)
end
mutual
theorem Rep.dp : ∀ {v : V} {d : PyData}, Rep K H v d → Dp K H v d
  | _, _, .non => .non
  | _, _, .bl b => .bl b
  | _, _, .int i => .int i
  | _, _, .str x => .str x
  | _, _, .lst h r => .lst h.sq (Reps.dp r)
  | _, _, .tup h r => .tup h (Reps.dp r)
theorem Reps.dp : ∀ {vs : List V} {ds : List PyData}, Reps K H vs ds → DpAll K H vs ds
  | _, _, .nil => .nil
  | _, _, .cons r rs => .cons (Rep.dp r) (Reps.dp rs)
end
theorem Reps.length : ∀ {vs : List V} {ds : List PyData}, Reps K H vs ds → vs.length = ds.length
  | _, _, .nil => rfl
  | _, _, .cons _ rs => by rw [List.length_cons, List.length_cons, Reps.length rs]
theorem Reps.get : ∀ {vs : List V} {ds : List PyData} {i : Nat} {d : PyData}, Reps K H vs ds → ds[i]? = some d → ∃ v, vs[i]? = some v ∧ Rep K H v d
  | _, _, _, _, .nil, e => by simp at e
  | _, _, 0, _, .cons r _, e => by simp at e; subst e; exact ⟨_, rfl, r⟩
  | _, _, i + 1, _, .cons _ t, e => by
    obtain ⟨u, h1, h2⟩ := Reps.get (i := i) t (by simpa using e)
    exact ⟨u, by simpa using h1, h2⟩
theorem Reps.getV : ∀ {vs : List V} {ds : List PyData} {i : Nat} {v : V}, Reps K H vs ds → vs[i]? = some v → ∃ d, ds[i]? = some d ∧ Rep K H v d
  | _, _, _, _, .nil, e => by simp at e
  | _, _, 0, _, .cons r _, e => by simp at e; subst e; exact ⟨_, rfl, r⟩
  | _, _, i + 1, _, .cons _ t, e => by
    obtain ⟨u, h1, h2⟩ := Reps.getV (i := i) t (by simpa using e)
    exact ⟨u, by simpa using h1, h2⟩
theorem Reps.append : ∀ {vs ws : List V} {ds es : List PyData}, Reps K H vs ds → Reps K H ws es → Reps K H (vs ++ ws) (ds ++ es)
  | _, _, _, _, .nil, s => s
  | _, _, _, _, .cons r t, s => .cons r (Reps.append t s)
theorem Reps.take : ∀ {vs : List V} {ds : List PyData} (n : Nat), Reps K H vs ds → Reps K H (vs.take n) (ds.take n)
  | _, _, 0, _ => .nil
  | _, _, _ + 1, .nil => .nil
  | _, _, n + 1, .cons r t => .cons r (Reps.take n t)
theorem Reps.drop : ∀ {vs : List V} {ds : List PyData} (n : Nat), Reps K H vs ds → Reps K H (vs.drop n) (ds.drop n)
  | _, _, 0, r => r
  | _, _, _ + 1, .nil => .nil
  | _, _, n + 1, .cons _ t => Reps.drop n t
theorem Reps.set : ∀ {vs : List V} {ds : List PyData} {v : V} {d : PyData} (n : Nat), Reps K H vs ds → Rep K H v d → Reps K H (vs.set n v) (ds.set n d)
  | _, _, _, _, _, .nil, _ => .nil
  | _, _, _, _, 0, .cons r t, q => .cons q t
  | _, _, _, _, n + 1, .cons r t, q => .cons r (Reps.set n t q)
theorem Reps.reverse : ∀ {vs : List V} {ds : List PyData}, Reps K H vs ds → Reps K H vs.reverse ds.reverse
  | _, _, .nil => .nil
  | _, _, .cons r t => by
    rw [List.reverse_cons, List.reverse_cons]
    exact (Reps.reverse t).append (.cons r .nil)
theorem Reps.dropLast {vs : List V} {ds : List PyData} (r : Reps K H vs ds) : Reps K H vs.dropLast ds.dropLast := by
  rw [List.dropLast_eq_take, List.dropLast_eq_take, r.length]
  exact r.take _
theorem Reps.eraseIdx {vs : List V} {ds : List PyData} (n : Nat) (r : Reps K H vs ds) : Reps K H (vs.eraseIdx n) (ds.eraseIdx n) := by
  rw [List.eraseIdx_eq_take_drop_succ, List.eraseIdx_eq_take_drop_succ]
  exact (r.take n).append (r.drop (n + 1))
theorem Reps.cut {vs : List V} {ds : List PyData} (r : Reps K H vs ds) (lo hi : Option Int) : Reps K H (cutV vs lo hi) (cutL ds lo hi) := by
  unfold cutV cutL
  rw [r.length]
  exact (r.drop _).take _
end

/-- a list that one slot alone holds -/
def RepO (K : PySem.W.Frag) (H : Hp) (v : V) (d : PyData) : Prop := ∃ a xs ds, v = .ref a ∧ d = .list ds ∧ H a = some (.lst xs) ∧ Reps K H xs ds
/-- what can be read of a value -/
def RdD (K : PySem.W.Frag) (H : Hp) (v : V) : PyData → Prop
  | .list ds => ∃ a xs, v = .ref a ∧ SqL K H a xs ∧ Reps K H xs ds
  | .tuple ds => ∃ a xs, v = .ref a ∧ SqT K H a xs ∧ Reps K H xs ds
  | .none => v = .non
  | .bool b => v = .bl b
  | .int i => v = .int i
  | .str x => v = .str x
  | .dict _ => False
section
variable {K : PySem.W.Frag} {H H' : Hp}
theorem Rep.rd {v : V} {d : PyData} (h : Rep K H v d) : RdD K H v d := by
  cases h with
  | non => rfl
  | bl b => rfl
  | int i => rfl
  | str x => rfl
  | lst h r => exact ⟨_, _, rfl, h.sq, r⟩
  | tup h r => exact ⟨_, _, rfl, h, r⟩
theorem RepO.rd {v : V} {d : PyData} (h : RepO K H v d) : RdD K H v d := by
  obtain ⟨a, xs, ds, e1, e2, h, r⟩ := h
  subst e1 e2
  exact ⟨a, xs, rfl, SqL.of h, r⟩
theorem RdD.dp {v : V} {d : PyData} (h : RdD K H v d) : Dp K H v d := by
  cases d with
  | none => cases (show v = V.non from h); exact .non
  | bool b => cases (show v = V.bl b from h); exact .bl b
  | int i => cases (show v = V.int i from h); exact .int i
  | str x => cases (show v = V.str x from h); exact .str x
  | list ds => obtain ⟨a, xs, rfl, h, r⟩ := h; exact .lst h r.dp
  | tuple ds => obtain ⟨a, xs, rfl, h, r⟩ := h; exact .tup h r.dp
  | dict kvs => exact False.elim h
end

/-! ### a list is locked: a ghost step -/
theorem Inv.lock {X : Cx} {pins : List (Addr × Obj)} {σ : St} {H : Hp} {s : Shared} {a : Addr} {xs : List V} (I : Inv X pins σ H s) (h : H a = some (.lst xs)) : ∃ o, Inv X pins σ (upd H a (.frz o (.lst xs))) s := by
  obtain ⟨z, its, n, r, e⟩ := I.hok a _ h
  refine ⟨{ cls := .type "list", data := .seq its.toArray n }, I.ok, I.os, I.bare, ⟨I.base.keep, I.base.slot, fun b o e n hx => ?_, I.base.there, fun b ys q => ?_, fun b o u q => ?_, fun b ps q => ?_⟩, I.loc, I.cell, ?_, fun x c q => ?_, fun p hp => ?_, fun b u q => ?_, I.len⟩
  · have q := I.base.free b o e n hx
    rw [upd_ne (ne_of_none h q).symm]
    exact q
  · have q' := I.base.tups b ys q
    rw [upd_ne (ne_of q' h (by simp))]
    exact q'
  · have q' := I.base.frzs b o u q
    rw [upd_ne (ne_of q' h (by simp))]
    exact q'
  · obtain ⟨m, q'⟩ := I.base.tbls b ps q
    exact ⟨m, by rw [upd_ne (ne_of q' h (by simp))]; exact q'⟩
  · rw [upd_ne (ne_of_none h I.free).symm]
    exact I.free
  · rw [upd_ne (ne_of_none h (I.freeC x c q)).symm]
    exact I.freeC x c q
  · obtain ⟨e1, n1, r1⟩ := I.pin p hp
    exact ⟨e1, by rw [upd_ne (ne_of_none h n1).symm]; exact n1, r1⟩
  · by_cases hb : b = a
    · subst hb
      rw [upd_same] at q
      cases q
      exact ⟨e, z, its, n, r, e⟩
    · rw [upd_ne hb] at q
      refine (I.hok b u q).stay (fun _ _ _ e => e) (fun c e => ?_) fun c ys e => ?_
      · rw [upd_ne (ne_of e h (by simp))]; exact e
      · rw [upd_ne (ne_of e h (by simp))]; exact e
/-- behind an expression a list may be locked -/
theorem PE.lock {X : Cx} {e : Expr} {t t' : TE} (h : PE X e t)
    (g : ∀ σ H Q, t' σ H Q → t σ H fun v H1 => Q v H1 ∨ ∃ a xs, H1 a = some (.lst xs) ∧ ∀ o, Q v (upd H1 a (.frz o (.lst xs)))) : PE X e t' := by
  refine ⟨fun pins s σ H Q I w => thn (h.run pins s σ H _ I (g σ H Q w)) fun u s' ⟨v, H', I', r, q⟩ => ?_⟩
  rcases q with q | ⟨a, xs, ha, q⟩
  · exact ⟨v, H', I', r, q⟩
  · obtain ⟨o, I2⟩ := Inv.lock I' ha
    exact ⟨v, _, I2, r, q o⟩
theorem PE.imp {X : Cx} {e : Expr} {t t' : TE} (h : PE X e t) (g : ∀ σ H Q, t' σ H Q → t σ H Q) : PE X e t' :=
  ⟨fun pins s σ H Q I w => h.run pins s σ H Q I (g σ H Q w)⟩
theorem PT.imp {X : Cx} {e : Expr} {t t' : TT} (h : PT X e t) (g : ∀ σ H Q, t' σ H Q → t σ H Q) : PT X e t' :=
  ⟨fun pins s σ H Q I w => h.run pins s σ H Q I (g σ H Q w)⟩
theorem PS.imp {X : Cx} {e : Stmt} {t t' : TS} (h : PS X e t) (g : ∀ D σ H, t' D σ H → t D σ H) : PS X e t' :=
  ⟨fun pins s σ H D I w => h.run pins s σ H D I (g D σ H w)⟩
theorem PSs.imp {X : Cx} {e : List Stmt} {t t' : TS} (h : PSs X e t) (g : ∀ D σ H, t' D σ H → t D σ H) : PSs X e t' :=
  ⟨fun pins s σ H D I w => h.run pins s σ H D I (g D σ H w)⟩
theorem PA.imp {X : Cx} {e : List Expr} {t t' : TA} (h : PA X e t) (g : ∀ σ H Q, t' σ H Q → t σ H Q) : PA X e t' :=
  ⟨fun pos pins s σ H Q I w => h.run pos pins s σ H Q I (g σ H Q w)⟩

/-! ### the state of a def -/
/-- a run of a def: the lists that it was handed in, the heap at its start, these parameters' values -/
structure Gh where
  A : Addr → Prop
  H0 : Hp
  fx : Nat → Option V
def Owned (σ : St) (ρ : Env) (b : Addr) : Prop := ∃ (i : Nat) (d : PyData), ρ[i]? = some (.own d) ∧ σ[i]? = some (some (.ref b))
structure RS (G : Gh) (K : PySem.W.Frag) (md : List Bool) (σ : St) (ρ : Env) (H : Hp) : Prop where
  len : σ.length = ρ.length
  val : ∀ (i : Nat) d, ρ[i]? = some (.val d) → ∃ v, σ[i]? = some (some v) ∧ Rep K H v d
  own : ∀ (i : Nat) d, ρ[i]? = some (.own d) → ∃ v, σ[i]? = some (some v) ∧ RepO K H v d
  dis : ∀ (i j : Nat) (b : Addr) d e, ρ[i]? = some (.own d) → ρ[j]? = some (.own e) → σ[i]? = some (some (.ref b)) → σ[j]? = some (some (.ref b)) → i = j
  adr : ∀ (i : Nat) (b : Addr) d, ρ[i]? = some (.own d) → σ[i]? = some (some (.ref b)) → (G.A b ∧ md[i]? = some true) ∨ G.H0 b = none
  thr : ∀ b, H b = none → G.H0 b = none
  keep : ∀ b u, G.H0 b = some u → ¬ G.A b → H b = some u
  fix : ∀ (i : Nat) v, md[i]? = some true → G.fx i = some v → σ[i]? = some (some v)
def Fr (σ : St) (ρ : Env) (H H' : Hp) : Prop := (∀ b u, H b = some u → ¬ Owned σ ρ b → H' b = some u) ∧ ∀ b, H' b = none → H b = none
inductive SlSub : Slot → Slot → Prop
  | refl (s : Slot) : SlSub s s
  | own (d e : PyData) : SlSub (.own d) (.own e)
  | lock (d e : PyData) : SlSub (.own d) (.val e)
theorem SlSub.trans {s t u : Slot} (a : SlSub s t) (b : SlSub t u) : SlSub s u := by
  cases a with
  | refl => exact b
  | own d e =>
    cases b with
    | refl => exact .own _ _
    | own => exact .own _ _
    | lock => exact .lock _ _
  | lock d e =>
    cases b with
    | refl => exact .lock _ _
def Sub (ρ ρ' : Env) : Prop := ρ.length = ρ'.length ∧ ∀ (i : Nat) s', ρ'[i]? = some s' → ∃ s, ρ[i]? = some s ∧ SlSub s s'
theorem Sub.refl (ρ : Env) : Sub ρ ρ := ⟨rfl, fun _ s h => ⟨s, h, .refl s⟩⟩
theorem Sub.trans {ρ ρ1 ρ2 : Env} (a : Sub ρ ρ1) (b : Sub ρ1 ρ2) : Sub ρ ρ2 := ⟨a.1.trans b.1, fun i s h => by
  obtain ⟨t, h1, h2⟩ := b.2 i s h
  obtain ⟨u, h3, h4⟩ := a.2 i t h1
  exact ⟨u, h3, h4.trans h2⟩⟩
theorem Sub.own {ρ ρ' : Env} (a : Sub ρ ρ') {i : Nat} {d : PyData} (h : ρ'[i]? = some (.own d)) : ∃ e, ρ[i]? = some (.own e) := by
  obtain ⟨s, h1, h2⟩ := a.2 i _ h
  cases h2 with
  | refl => exact ⟨_, h1⟩
  | own => exact ⟨_, h1⟩
theorem Sub.owned {ρ ρ' : Env} (a : Sub ρ ρ') {σ : St} {b : Addr} (h : Owned σ ρ' b) : Owned σ ρ b := by
  obtain ⟨i, d, h1, h2⟩ := h
  obtain ⟨e, h3⟩ := a.own h1
  exact ⟨i, e, h3, h2⟩
theorem Sub.set {ρ : Env} {i : Nat} {s s' : Slot} (h : ρ[i]? = some s) (q : SlSub s s') : Sub ρ (ρ.set i s') := ⟨by rw [List.length_set], fun j t e => by
  by_cases hj : i = j
  · subst hj
    have hi : i < ρ.length := (List.getElem?_eq_some_iff.mp h).1
    rw [List.getElem?_set_self hi] at e
    cases e
    exact ⟨s, h, q⟩
  · rw [List.getElem?_set_ne hj] at e
    exact ⟨t, e, .refl t⟩⟩
theorem Fr.refl {σ : St} {ρ : Env} {H : Hp} : Fr σ ρ H H := ⟨fun _ _ h _ => h, fun _ h => h⟩
theorem Fr.grow {σ : St} {ρ : Env} {H H' : Hp} (e : ∀ b u, H b = some u → H' b = some u) : Fr σ ρ H H' := ⟨fun b u h _ => e b u h, fun b h => by
  cases q : H b with
  | none => rfl
  | some u => rw [e b u q] at h; cases h⟩
theorem Fr.trans {σ : St} {ρ ρ1 : Env} {H H1 H2 : Hp} (a : Fr σ ρ H H1) (s : Sub ρ ρ1) (b : Fr σ ρ1 H1 H2) : Fr σ ρ H H2 := ⟨fun c u h n => b.1 c u (a.1 c u h n) fun q => n (s.owned q), fun c h => a.2 c (b.2 c h)⟩
section
variable {G : Gh} {K : PySem.W.Frag} {md : List Bool} {σ : St} {ρ ρ' : Env} {H H' : Hp}
theorem RS.owned (R : RS G K md σ ρ H) {b : Addr} (h : Owned σ ρ b) : ∃ xs, H b = some (.lst xs) := by
  obtain ⟨i, d, h1, h2⟩ := h
  obtain ⟨v, h3, a, xs, ds, e1, e2, h4, r⟩ := R.own i d h1
  rw [h2] at h3
  cases h3
  cases e1
  exact ⟨xs, h4⟩
theorem RS.ext (R : RS G K md σ ρ H) (f : Fr σ ρ H H') : Ext H H' := by
  refine ⟨fun b xs h => f.1 b _ h fun q => ?_, fun b o u h => f.1 b _ h fun q => ?_⟩
  · obtain ⟨ys, e⟩ := R.owned q
    rw [h] at e; cases e
  · obtain ⟨ys, e⟩ := R.owned q
    rw [h] at e; cases e
theorem RS.fresh (R : RS G K md σ ρ H) {a : Addr} (h : H a = none) : ¬ Owned σ ρ a := fun q => by
  obtain ⟨xs, e⟩ := R.owned q
  rw [h] at e; cases e
theorem RS.adr' (R : RS G K md σ ρ H) {b : Addr} (h : Owned σ ρ b) : G.A b ∨ G.H0 b = none := by
  obtain ⟨i, d, h1, h2⟩ := h
  exact (R.adr i b d h1 h2).imp (·.1) id
/-- only new objects: the state stays -/
theorem RS.grow (R : RS G K md σ ρ H) (e : ∀ b u, H b = some u → H' b = some u) : RS G K md σ ρ H' := by
  have x : Ext H H' := ⟨fun b xs h => e b _ h, fun b o u h => e b _ h⟩
  refine ⟨R.len, fun i d h => ?_, fun i d h => ?_, R.dis, R.adr, fun b h => R.thr b ?_, fun b u h n => e b u (R.keep b u h n), R.fix⟩
  · obtain ⟨v, h1, h2⟩ := R.val i d h
    exact ⟨v, h1, h2.mono x⟩
  · obtain ⟨v, h1, a, xs, ds, e1, e2, h4, r⟩ := R.own i d h
    exact ⟨v, h1, a, xs, ds, e1, e2, e a _ h4, r.mono x⟩
  · cases q : H b with
    | none => rfl
    | some u => rw [e b u q] at h; cases h
end

/-! ### values at hand -/
/-- behind an expression that began at H -/
def RepEV (K : PySem.W.Frag) (σ : St) (H H' : Hp) (v : V) : EV → Prop
  | .val d => Rep K H' v d
  | .fr d => ∃ a, v = .ref a ∧ H a = none ∧ RepO K H' v d
  | .al i => σ[i]? = some (some v)
def RepRV (K : PySem.W.Frag) (σ : St) (H : Hp) (v : V) : RV → Prop
  | .dat d => Rep K H v d
  | .al i => σ[i]? = some (some v)
theorem RepRV.mono {K : PySem.W.Frag} {σ : St} {H H' : Hp} {v : V} {r : RV} (e : Ext H H') (h : RepRV K σ H v r) : RepRV K σ H' v r := by
  cases r with
  | dat d => exact Rep.mono e h
  | al i => exact h
theorem RepRV.rd {G : Gh} {K : PySem.W.Frag} {md : List Bool} {σ : St} {ρ : Env} {H : Hp} {v : V} {r : RV} {d : PyData} (R : RS G K md σ ρ H) (h : RepRV K σ H v r) (e : deref ρ r = some d) : RdD K H v d := by
  cases r with
  | dat d' =>
    have e' : d' = d := Option.some.inj e
    subst e'
    exact Rep.rd h
  | al i =>
    have e' : (ρ[i]?).bind slotD = some d := e
    have h' : σ[i]? = some (some v) := h
    cases q : ρ[i]? with
    | none => rw [q] at e'; cases e'
    | some s =>
      rw [q] at e'
      cases s with
      | un => cases e'
      | val d' =>
        cases e'
        obtain ⟨v', h1, h2⟩ := R.val i _ q
        rw [h'] at h1; cases h1
        exact h2.rd
      | own d' =>
        cases e'
        obtain ⟨v', h1, h2⟩ := R.own i _ q
        rw [h'] at h1; cases h1
        exact h2.rd
/-- what is wanted of a result -/
def Want {α : Type} (r : Res α) (P : α → Env → Prop) : Prop := match r with
  | .ok a ρ => P a ρ
  | _ => False
theorem Want.bind {α β : Type} {r : Res α} {f : α → Env → Res β} {P : β → Env → Prop} (h : Want (r.bind f) P) : Want r fun a ρ => Want (f a ρ) P := by
  cases r with
  | ok a ρ => exact h
  | exc x ρ => exact h
  | stuck => exact h
theorem Want.mono {α : Type} {r : Res α} {P P' : α → Env → Prop} (h : Want r P) (g : ∀ a ρ, P a ρ → P' a ρ) : Want r P' := by
  cases r with
  | ok a ρ => exact g _ _ h
  | exc x ρ => exact h
  | stuck => exact h
theorem Want.ofO {α : Type} {o : Option α} {ρ : Env} {P : α → Env → Prop} (h : Want (ofO o ρ) P) : ∃ a, o = some a ∧ P a ρ := by
  cases o with
  | none => exact False.elim h
  | some a => exact ⟨a, rfl, h⟩

section
variable (K : PySem.W.Frag) (md : List Bool)
/-- raw; read; data; a truth value -/
def tE (f : Env → Res EV) : TE := fun σ H Q => ∃ G ρ, RS G K md σ ρ H ∧ Want (f ρ) fun x ρ' => ∀ v H', Fr σ ρ H H' → Sub ρ ρ' → RS G K md σ ρ' H' → RepEV K σ H H' v x → Q v H'
def tR (f : Env → Res EV) : TE := fun σ H Q => ∃ G ρ, RS G K md σ ρ H ∧ Want (f ρ) fun x ρ' => ∀ v H', Fr σ ρ H H' → Sub ρ ρ' → RS G K md σ ρ' H' → RepRV K σ H' v (toR x) → Q v H'
def tV (f : Env → Res PyData) : TE := fun σ H Q => ∃ G ρ, RS G K md σ ρ H ∧ Want (f ρ) fun d ρ' => ∀ v H', Fr σ ρ H H' → Sub ρ ρ' → RS G K md σ ρ' H' → Rep K H' v d → Q v H'
def tTr (f : Env → Res Bool) : TT := fun σ H Q => ∃ G ρ, RS G K md σ ρ H ∧ Want (f ρ) fun b ρ' => ∀ H', Fr σ ρ H H' → Sub ρ ρ' → RS G K md σ ρ' H' → Q b H'
def tVs (f : Env → Res (List PyData)) : TA := fun σ H Q => ∃ G ρ, RS G K md σ ρ H ∧ Want (f ρ) fun ds ρ' => ∀ vs H', Fr σ ρ H H' → Sub ρ ρ' → RS G K md σ ρ' H' → Reps K H' vs ds → Q vs H'
end

/-- a slot's list is locked -/
theorem lock_slot {G : Gh} {K : PySem.W.Frag} {md : List Bool} {σ : St} {ρ : Env} {H : Hp} {i : Nat} {d : PyData} {v : V} (R : RS G K md σ ρ H) (h : ρ[i]? = some (.own d)) (hv : σ[i]? = some (some v)) :
    ∃ a xs, v = .ref a ∧ H a = some (.lst xs) ∧ Owned σ ρ a ∧ ∀ o, Fr σ ρ H (upd H a (.frz o (.lst xs))) ∧ RS G K md σ (ρ.set i (.val d)) (upd H a (.frz o (.lst xs))) ∧ Rep K (upd H a (.frz o (.lst xs))) v d := by
  obtain ⟨v', h1, a, xs, ds, e1, e2, h4, r⟩ := R.own i d h
  rw [hv] at h1; cases h1
  subst e1 e2
  have ow : Owned σ ρ a := ⟨i, _, h, hv⟩
  have sub : Sub ρ (ρ.set i (.val (.list ds))) := Sub.set h (.lock _ _)
  refine ⟨a, xs, rfl, h4, ow, fun o => ?_⟩
  have fr : Fr σ ρ H (upd H a (.frz o (.lst xs))) := ⟨fun b u e n => by
    rw [upd_ne (fun q => n (by rw [q]; exact ow))]; exact e, fun b e => by
    by_cases z : b = a
    · subst z; rw [upd_same] at e; cases e
    · rw [upd_ne z] at e; exact e⟩
  have x := R.ext fr
  have rp : Rep K (upd H a (.frz o (.lst xs))) (.ref a) (.list ds) := .lst (.inl ⟨o, upd_same⟩) (r.mono x)
  have hi : i < ρ.length := (List.getElem?_eq_some_iff.mp h).1
  refine ⟨fr, ⟨by rw [List.length_set]; exact R.len, fun j e q => ?_, fun j e q => ?_, fun j k b e f p q => ?_, fun j b e p q => ?_, fun b q => R.thr b (fr.2 b q), fun b u q n => ?_, R.fix⟩, rp⟩
  · by_cases hj : i = j
    · subst hj
      rw [List.getElem?_set_self hi] at q
      cases q
      exact ⟨_, hv, rp⟩
    · rw [List.getElem?_set_ne hj] at q
      obtain ⟨w, q1, q2⟩ := R.val j e q
      exact ⟨w, q1, q2.mono x⟩
  · by_cases hj : i = j
    · subst hj
      rw [List.getElem?_set_self hi] at q
      cases q
    · rw [List.getElem?_set_ne hj] at q
      obtain ⟨w, q1, b, ys, es, f1, f2, q4, q5⟩ := R.own j e q
      subst f1
      have ne : b ≠ a := fun z => hj (R.dis i j a _ _ h q hv (by rw [q1, z]))
      exact ⟨_, q1, b, ys, es, rfl, f2, by rw [upd_ne ne]; exact q4, q5.mono x⟩
  · obtain ⟨_, p'⟩ := sub.own p
    obtain ⟨_, q'⟩ := sub.own q
    exact R.dis j k b _ _ p' q'
  · obtain ⟨_, p'⟩ := sub.own p
    exact R.adr j b _ p' q
  · have q' := R.keep b u q n
    by_cases z : b = a
    · subst z
      rcases R.adr' ow with y | y
      · exact absurd y n
      · rw [q] at y; cases y
    · rw [upd_ne z]; exact q'
/-- raw to read -/
theorem PE.toR {X : Cx} {e : Expr} {md : List Bool} {f : Env → Res EV} (h : PE X e (tE X.K md f)) : PE X e (tR X.K md f) := by
  refine PE.lock h fun σ H Q w => ?_
  obtain ⟨G, ρ, R, w⟩ := w
  refine ⟨G, ρ, R, w.mono fun x ρ' q v H' fr sb R' rep => ?_⟩
  cases x with
  | val d => exact .inl (q v H' fr sb R' rep)
  | al i => exact .inl (q v H' fr sb R' rep)
  | fr d =>
    obtain ⟨a, rfl, hn, a', xs, ds, e1, e2, h4, r⟩ := rep
    cases e1
    subst e2
    refine .inr ⟨a, xs, h4, fun o => ?_⟩
    have nO : ¬ Owned σ ρ' a := fun z => R.fresh hn (sb.owned z)
    have fr' : Fr σ ρ H (upd H' a (.frz o (.lst xs))) := ⟨fun b u z n => by
      have ne : b ≠ a := fun y => by rw [y, hn] at z; cases z
      rw [upd_ne ne]; exact fr.1 b u z n, fun b e => by
      by_cases z : b = a
      · subst z; exact hn
      · rw [upd_ne z] at e; exact fr.2 b e⟩
    have ex : Ext H' (upd H' a (.frz o (.lst xs))) := ⟨fun b ys z => by rw [upd_ne (ne_of z h4 (by simp))]; exact z, fun b o' u z => by rw [upd_ne (ne_of z h4 (by simp))]; exact z⟩
    refine q _ _ fr' sb ?_ (.lst (.inl ⟨o, upd_same⟩) (r.mono ex))
    refine ⟨R'.len, fun j e z => ?_, fun j e z => ?_, R'.dis, R'.adr, fun b z => R.thr b (fr'.2 b z), fun b u z n => ?_, R'.fix⟩
    · obtain ⟨w, z1, z2⟩ := R'.val j e z
      exact ⟨w, z1, z2.mono ex⟩
    · obtain ⟨w, z1, b, ys, es, f1, f2, z4, z5⟩ := R'.own j e z
      subst f1
      have ne : b ≠ a := fun y => nO ⟨j, e, z, by rw [z1, y]⟩
      exact ⟨_, z1, b, ys, es, rfl, f2, by rw [upd_ne ne]; exact z4, z5.mono ex⟩
    · have z' := R'.keep b u z n
      by_cases y : b = a
      · subst y
        have y := R.thr _ hn
        rw [z] at y; cases y
      · rw [upd_ne y]; exact z'
/-- raw to data -/
theorem PE.toV {X : Cx} {e : Expr} {md : List Bool} {f : Env → Res EV} (h : PE X e (tE X.K md f)) : PE X e (tV X.K md fun ρ => (f ρ).bind settle) := by
  refine PE.lock (PE.toR h) fun σ H Q w => ?_
  obtain ⟨G, ρ, R, w⟩ := w
  refine ⟨G, ρ, R, w.bind.mono fun x ρ' q v H' fr sb R' rep => ?_⟩
  cases x with
  | val d => exact .inl (q v H' fr sb R' rep)
  | fr d => exact .inl (q v H' fr sb R' rep)
  | al i =>
    have rep : σ[i]? = some (some v) := rep
    have q : Want (match ρ'[i]? with
      | some (.val d) => Res.ok d ρ'
      | some (.own d) => .ok d (ρ'.set i (.val d))
      | _ => .stuck) fun d ρ' => ∀ v H', Fr σ ρ H H' → Sub ρ ρ' → RS G X.K md σ ρ' H' → Rep X.K H' v d → Q v H' := q
    cases z : ρ'[i]? with
    | none => rw [z] at q; exact False.elim q
    | some s =>
      rw [z] at q
      cases s with
      | un => exact False.elim q
      | val d =>
        obtain ⟨v', h1, h2⟩ := R'.val i d z
        rw [rep] at h1; cases h1
        exact .inl (q v H' fr sb R' h2)
      | own d =>
        obtain ⟨a, xs, rfl, h4, ow, L⟩ := lock_slot R' z rep
        exact .inr ⟨a, xs, h4, fun o => q _ _ (fr.trans sb (L o).1) (sb.trans (Sub.set z (.lock _ _))) (L o).2.1 (L o).2.2⟩
end Dn
/-! Den3: operations on values by data -/
namespace Dn
open PySem PySem.Spec PyProof.Rows L2

/-- a result: data, or a new list -/
def RepN (K : PySem.W.Frag) (H H' : Hp) (v : V) : EV → Prop
  | .val d => Rep K H' v d
  | .fr d => ∃ a, v = .ref a ∧ H a = none ∧ RepO K H' v d
  | .al _ => False
def Ex (H H' : Hp) : Prop := ∀ b u, H b = some u → H' b = some u
theorem Ex.refl (H : Hp) : Ex H H := fun _ _ h => h
theorem Ex.new {H : Hp} {p : Addr} {o : HO} (h : H p = none) : Ex H (upd H p o) := fun a u e => by
  rw [upd_ne (ne_of_none e h)]
  exact e
theorem Ex.ext {H H' : Hp} (e : Ex H H') : Ext H H' := ⟨fun b xs h => e b _ h, fun b o u h => e b _ h⟩
def RNew (K : PySem.W.Frag) (H : Hp) (Q : VK) (r : EV) : Prop := ∀ v H', Ex H H' → RepN K H H' v r → Q v H'
theorem RNew.list {K : PySem.W.Frag} {H : Hp} {Q : VK} {xs : List V} {ds : List PyData} (q : RNew K H Q (.fr (.list ds))) (r : Reps K H xs ds) : ∀ p, H p = none → Q (.ref p) (upd H p (.lst xs)) := fun p hp =>
  q _ _ (Ex.new hp) ⟨p, rfl, hp, p, xs, ds, rfl, rfl, upd_same, r.mono (Ex.new hp).ext⟩
theorem RNew.tuple {K : PySem.W.Frag} {H : Hp} {Q : VK} {xs : List V} {ds : List PyData} (q : RNew K H Q (.val (.tuple ds))) (r : Reps K H xs ds) : ∀ p, H p = none → Q (.ref p) (upd H p (.tup xs)) := fun p hp =>
  q _ _ (Ex.new hp) (.tup (SqT.of upd_same) (r.mono (Ex.new hp).ext))
theorem RNew.here {K : PySem.W.Frag} {H : Hp} {Q : VK} {d : PyData} {v : V} (q : RNew K H Q (.val d)) (r : Rep K H v d) : Q v H := q _ _ (Ex.refl H) r
theorem szl_eq : szl = sizeLine := by rw [sizeLine_eq]; rfl

section
variable {X : Cx}
def rCatL (K : PySem.W.Frag) : R2 := fun x y H Q => ∃ l b xs zs, x = .ref l ∧ y = .ref b ∧ SqL K H l xs ∧ SqL K H b zs ∧ xs.length + zs.length ≤ sizeLine ∧ ∀ p, H p = none → Q (.ref p) (upd H p (.lst (xs ++ zs)))
theorem op_catL : OpR X (binaryOp .Add) (rCatL X.K) := by
  intro pins s σ H x y v u Q I rx ry h
  obtain ⟨l, b, xs, zs, rfl, rfl, hH, hB, hz, q⟩ := h
  cases rx
  cases ry
  obtain ⟨its, r, ⟨o, n, ho, hc, _, hd⟩, _⟩ := I.list hH
  obtain ⟨its2, r2, ⟨o2, n2, ho2, hc2, _, hd2⟩, _⟩ := I.list hB
  obtain ⟨cls, dd, data, sl⟩ := o
  obtain ⟨cls2, dd2, data2, sl2⟩ := o2
  simp only at hc hd hc2 hd2
  subst hc hd hc2 hd2
  have h1 := r.length
  have h2 := r2.length
  refine concat_meets ⟨_, ho, rfl⟩ ⟨_, ho2, rfl⟩ noFill_list_add seq_list_add PySem.F.slot_list_add PySem.F.entry_list_add (PySem.F.args_list_add_2 _ _) (list_addW l b its.toArray its2.toArray n n2 dd dd2 sl sl2 (by simp only [List.size_toArray]; omega)) ⟨ho, ho2, ?_⟩
  have ea : its.toArray ++ its2.toArray = (its ++ its2).toArray := by simp
  rw [ea]
  exact ⟨.ref _, _, I.lnew (t' := s.toks) (r.append r2) (by rw [List.length_append]; omega), rfl, q _ I.fresh⟩

/-! ### two-place operators -/
def bop : BOp → Operator
  | .add => .Add | .sub => .Sub | .mul => .Mult | .fdiv => .FloorDiv | .mod => .Mod | .pow => .Pow
def rBin (K : PySem.W.Frag) (o : BOp) : R2 := fun x y H Q => ∃ dx dy r, RdD K H x dx ∧ RdD K H y dy ∧ binD o dx dy = some r ∧ RNew K H Q r
theorem op_bin (o : BOp) : OpR X (binaryOp (bop o)) (rBin X.K o) := by
  intro pins s σ H x y v u Q I rx ry h
  obtain ⟨dx, dy, r, hx, hy, e, q⟩ := h
  cases o with
  | add =>
    cases dx with
    | int a =>
      cases dy with
      | int b =>
        cases e
        cases hx; cases hy
        exact op_add pins s σ H _ _ v u Q I rx ry ⟨a, b, rfl, rfl, q.here (.int _)⟩
      | _ => cases e
    | str a =>
      cases dy with
      | str b =>
        by_cases hz : a.length + b.length ≤ szl
        · have e' : some (EV.val (.str (a ++ b))) = some r := by rw [← e]; exact (if_pos hz).symm
          cases e'
          cases hx; cases hy
          exact op_add_str pins s σ H _ _ v u Q I rx ry ⟨a, b, rfl, rfl, by rw [← szl_eq]; exact hz, q.here (.str _)⟩
        · have e' : none = some r := by rw [← e]; exact (if_neg hz).symm
          cases e'
      | _ => cases e
    | list a =>
      cases dy with
      | list b =>
        by_cases hz : a.length + b.length ≤ szl
        · have e' : some (EV.fr (.list (a ++ b))) = some r := by rw [← e]; exact (if_pos hz).symm
          cases e'
          obtain ⟨p, xs, rfl, h1, r1⟩ := hx
          obtain ⟨p2, zs, rfl, h2, r2⟩ := hy
          exact op_catL pins s σ H _ _ v u Q I rx ry ⟨p, p2, xs, zs, rfl, rfl, h1, h2, by rw [r1.length, r2.length, ← szl_eq]; exact hz, q.list (r1.append r2)⟩
        · have e' : none = some r := by rw [← e]; exact (if_neg hz).symm
          cases e'
      | _ => cases e
    | tuple a =>
      cases dy with
      | tuple b =>
        by_cases hz : a.length + b.length ≤ szl
        · have e' : some (EV.val (.tuple (a ++ b))) = some r := by rw [← e]; exact (if_pos hz).symm
          cases e'
          obtain ⟨p, xs, rfl, h1, r1⟩ := hx
          obtain ⟨p2, zs, rfl, h2, r2⟩ := hy
          refine op_catA pins s σ H _ _ v u Q I rx ry ⟨p, p2, xs, zs, rfl, rfl, h1, h2, by rw [r1.length, r2.length, ← szl_eq]; exact hz, fun z => ?_, fun _ z => ?_, fun _ _ => q.tuple (r1.append r2)⟩
          · subst z
            cases r1
            exact q.here (.tup h2 r2)
          · subst z
            cases r2
            rw [List.append_nil] at q
            exact q.here (.tup h1 r1)
        · have e' : none = some r := by rw [← e]; exact (if_neg hz).symm
          cases e'
      | _ => cases e
    | _ => cases dy <;> cases e
  | sub =>
    cases dx with
    | int a =>
      cases dy with
      | int b =>
        cases e
        cases hx; cases hy
        exact op_sub pins s σ H _ _ v u Q I rx ry ⟨a, b, rfl, rfl, q.here (.int _)⟩
      | _ => cases e
    | _ => cases dy <;> cases e
  | mul =>
    cases dx with
    | int a =>
      cases dy with
      | int b =>
        by_cases hz : (-(2 ^ 64) < a ∧ a < 2 ^ 64) ∨ (-(2 ^ 64) < b ∧ b < 2 ^ 64)
        · have e' : some (EV.val (.int (a * b))) = some r := by rw [← e]; exact (if_pos hz).symm
          cases e'
          cases hx; cases hy
          exact op_mul pins s σ H _ _ v u Q I rx ry ⟨a, b, rfl, rfl, hz, q.here (.int _)⟩
        · have e' : none = some r := by rw [← e]; exact (if_neg hz).symm
          cases e'
      | _ => cases e
    | _ => cases dy <;> cases e
  | fdiv =>
    cases dx with
    | int a =>
      cases dy with
      | int b =>
        by_cases hz : 0 < b ∧ b < 1073741824
        · have e' : some (EV.val (.int (a / b))) = some r := by rw [← e]; exact (if_pos hz).symm
          cases e'
          cases hx; cases hy
          exact op_fdiv pins s σ H _ _ v u Q I rx ry ⟨a, b, rfl, rfl, hz, q.here (.int _)⟩
        · have e' : none = some r := by rw [← e]; exact (if_neg hz).symm
          cases e'
      | _ => cases e
    | _ => cases dy <;> cases e
  | mod =>
    cases dx with
    | int a =>
      cases dy with
      | int b =>
        by_cases hz : 0 < b
        · have e' : some (EV.val (.int (a % b))) = some r := by rw [← e]; exact (if_pos hz).symm
          cases e'
          cases hx; cases hy
          exact op_mod pins s σ H _ _ v u Q I rx ry ⟨a, b, rfl, rfl, hz, q.here (.int _)⟩
        · have e' : none = some r := by rw [← e]; exact (if_neg hz).symm
          cases e'
      | _ => cases e
    | _ => cases dy <;> cases e
  | pow =>
    cases dx with
    | int a =>
      cases dy with
      | int b =>
        by_cases hz : 0 ≤ b ∧ b ≤ 1000000 ∧ a.natAbs < 2 ^ 64
        · have e' : some (EV.val (.int (a ^ b.toNat))) = some r := by rw [← e]; exact (if_pos hz).symm
          cases e'
          cases hx; cases hy
          exact op_pow pins s σ H _ _ v u Q I rx ry ⟨a, b, rfl, rfl, hz, q.here (.int _)⟩
        · have e' : none = some r := by rw [← e]; exact (if_neg hz).symm
          cases e'
      | _ => cases e
    | _ => cases dy <;> cases e
/-! ### comparisons -/
def cop : COp → CmpOp
  | .eq => .Eq | .ne => .NotEq | .lt => .Lt | .le => .LtE | .gt => .Gt | .ge => .GtE | .isin => .In | .notin => .NotIn | .is => .Is | .isnot => .IsNot
def rCmpD (K : PySem.W.Frag) (o : COp) : R2 := fun x y H Q => ∃ dx dy b, RdD K H x dx ∧ RdD K H y dy ∧ cmpD o dx dy = some b ∧ Q (.bl b) H
theorem RdD.reads {pins : List (Addr × Obj)} {σ : St} {H : Hp} {s : Shared} {v : V} {u : Value} {d : PyData} (I : Inv X pins σ H s) (h : RdD X.K H v d) (r : RelV v u) : ∃ as, Reads s.heap u d as := Dp.reads I d v u h.dp r
theorem RdD.flat {K : PySem.W.Frag} {H : Hp} {v : V} {d : PyData} (h : RdD K H v d) (f : flatD d = true) : flatV v = true := by
  cases d with
  | none => cases (show v = V.non from h); rfl
  | bool b => cases (show v = V.bl b from h); rfl
  | int i => cases (show v = V.int i from h); rfl
  | str x => cases (show v = V.str x from h); rfl
  | _ => cases f
theorem eqV_eqv {K : PySem.W.Frag} {H : Hp} {v w : V} {d e : PyData} (h : RdD K H v d) (h' : RdD K H w e) (f : flatD d = true) (f' : flatD e = true) : eqV v w = PyData.eqv d e := by
  cases d with
  | none => cases (show v = V.non from h); cases e with
    | none => cases (show w = V.non from h'); rfl
    | bool b => cases (show w = V.bl b from h'); rfl
    | int i => cases (show w = V.int i from h'); rfl
    | str x => cases (show w = V.str x from h'); rfl
    | _ => cases f'
  | bool b => cases (show v = V.bl b from h); cases e with
    | none => cases (show w = V.non from h'); rfl
    | bool b => cases (show w = V.bl b from h'); simp [eqV, PyData.eqv]
    | int i => cases (show w = V.int i from h'); simp [eqV, PyData.eqv]
    | str x => cases (show w = V.str x from h'); rfl
    | _ => cases f'
  | int i => cases (show v = V.int i from h); cases e with
    | none => cases (show w = V.non from h'); rfl
    | bool b => cases (show w = V.bl b from h'); simp [eqV, PyData.eqv]
    | int i => cases (show w = V.int i from h'); simp [eqV, PyData.eqv]
    | str x => cases (show w = V.str x from h'); rfl
    | _ => cases f'
  | str x => cases (show v = V.str x from h); cases e with
    | none => cases (show w = V.non from h'); rfl
    | bool b => cases (show w = V.bl b from h'); rfl
    | int i => cases (show w = V.int i from h'); rfl
    | str x => cases (show w = V.str x from h'); simp [eqV, PyData.eqv]
    | _ => cases f'
  | _ => cases f
theorem inV_any {K : PySem.W.Frag} {H : Hp} {v : V} {d : PyData} (h : RdD K H v d) (f : flatD d = true) : ∀ {xs : List V} {ds : List PyData}, Reps K H xs ds → ds.all flatD = true → xs.all flatV = true ∧ inV v xs = ds.any fun y => PyData.eqv y d
  | _, _, .nil, _ => ⟨rfl, rfl⟩
  | _, _, .cons r rs, hf => by
    rw [List.all_cons, Bool.and_eq_true] at hf
    obtain ⟨h1, h2⟩ := inV_any h f rs hf.2
    refine ⟨by rw [List.all_cons, h1, (Rep.rd r).flat hf.1]; rfl, ?_⟩
    unfold inV at h2 ⊢
    rw [List.any_cons, List.any_cons, h2, eqV_eqv (Rep.rd r) h hf.1 f]
theorem eqT_inv {d e : PyData} {b : Bool} (h : eqT d e = some b) : ∃ x y, d = .str x ∧ e = .str y ∧ b = (x == y) := by
  cases d <;> cases e <;> first | (cases h; exact ⟨_, _, rfl, rfl, rfl⟩) | cases h
theorem dec_txt {x y : Str} : decide (V.str x = V.str y) = (x == y) := by
  by_cases h : x = y
  · subst h
    rw [decide_eq_true rfl, beq_self_eq_true]
  · rw [decide_eq_false (fun q => h (V.str.inj q)), beq_eq_false_iff_ne.mpr h]
theorem op_eqW (hu : X.A.units + 64 < cLine) {neg : Bool} : OpR X (compareOp (if neg then .NotEq else .Eq)) (fun x y H Q => ∃ dx dy b, RdD X.K H x dx ∧ RdD X.K H y dy ∧ eqD dx dy = some b ∧ Q (.bl (if neg then !b else b)) H) := by
  intro pins s σ H x y v u Q I rx ry h
  obtain ⟨d, e, b, hd, he, eq, q⟩ := h
  unfold eqD at eq
  cases z : eqT d e with
  | some r =>
    rw [z] at eq
    cases eq
    obtain ⟨t1, t2, rfl, rfl, rfl⟩ := eqT_inv z
    cases hd; cases he
    cases neg with
    | false => exact op_eq pins s σ H _ _ v u Q I rx ry ⟨rfl, by rw [dec_txt]; exact q⟩
    | true => exact op_ne pins s σ H _ _ v u Q I rx ry ⟨rfl, by rw [dec_txt]; exact q⟩
  | none =>
    rw [z] at eq
    by_cases hc : d.canLay0 = true ∧ e.canLay0 = true ∧ min d.depth e.depth ≤ 64
    · have e' : some (PyData.eqv d e) = some b := by rw [← eq]; exact (if_pos hc).symm
      cases e'
      obtain ⟨as, r1⟩ := hd.reads I rx
      obtain ⟨bs, r2⟩ := he.reads I ry
      cases neg with
      | false => exact SeqAt.compareEq_reads r1 r2 hc.1 hc.2.1 (by omega) ⟨.bl _, H, I, rfl, q⟩
      | true => exact SeqAt.compareNe_reads r1 r2 hc.1 hc.2.1 (by omega) ⟨.bl _, H, I, rfl, q⟩
    · have e' : none = some b := by rw [← eq]; exact (if_neg hc).symm
      cases e'
theorem op_inW (hu : X.A.units + 65 < cLine) {neg : Bool} : OpR X (compareOp (if neg then .NotIn else .In)) (fun x y H Q => ∃ dx dy b, RdD X.K H x dx ∧ RdD X.K H y dy ∧ inD dx dy = some b ∧ Q (.bl (if neg then !b else b)) H) := by
  intro pins s σ H x y v u Q I rx ry h
  obtain ⟨d, e, b, hd, he, eq, q⟩ := h
  cases e with
  | str j =>
    cases d with
    | str i =>
      cases eq
      cases hd; cases he
      cases neg with
      | false => exact op_in_str pins s σ H _ _ v u Q I rx ry ⟨i, j, rfl, rfl, q⟩
      | true => exact op_notin_str pins s σ H _ _ v u Q I rx ry ⟨i, j, rfl, rfl, q⟩
    | _ => cases eq
  | list l =>
    by_cases hc : SeqAt.shaped d = true ∧ SeqAt.shaped (.list l) = true
    · have e' : some (l.any fun y => PyData.eqv y d) = some b := by rw [← eq]; exact (if_pos hc).symm
      cases e'
      cases neg with
      | false => exact op_inD hu pins s σ H _ _ v u Q I rx ry ⟨d, l, hd.dp, he.dp, hc.1, hc.2, q⟩
      | true => exact op_notInD hu pins s σ H _ _ v u Q I rx ry ⟨d, l, hd.dp, he.dp, hc.1, hc.2, q⟩
    · have e' : none = some b := by rw [← eq]; exact (if_neg hc).symm
      cases e'
  | tuple l =>
    by_cases hc : flatD d = true ∧ l.all flatD = true
    · have e' : some (l.any fun y => PyData.eqv y d) = some b := by rw [← eq]; exact (if_pos hc).symm
      cases e'
      obtain ⟨p, xs, rfl, h1, r1⟩ := he
      obtain ⟨f1, f2⟩ := inV_any hd hc.1 r1 hc.2
      cases neg with
      | false => exact op_in_seq pins s σ H _ _ v u Q I rx ry ⟨p, xs, rfl, .inr h1, hd.flat hc.1, f1, by rw [f2]; exact q⟩
      | true => exact op_notIn_seq pins s σ H _ _ v u Q I rx ry ⟨p, xs, rfl, .inr h1, hd.flat hc.1, f1, by rw [f2]; exact q⟩
    · have e' : none = some b := by rw [← eq]; exact (if_neg hc).symm
      cases e'
  | _ => cases eq
theorem non_iff {K : PySem.W.Frag} {H : Hp} {v : V} {d : PyData} (h : RdD K H v d) : decide (v = .non) = isNone d := by
  cases d with
  | none => cases (show v = V.non from h); rfl
  | bool b => cases (show v = V.bl b from h); rfl
  | int i => cases (show v = V.int i from h); rfl
  | str x => cases (show v = V.str x from h); rfl
  | list l => obtain ⟨a, xs, rfl, _⟩ := h; rfl
  | tuple l => obtain ⟨a, xs, rfl, _⟩ := h; rfl
  | dict l => exact False.elim h
theorem op_isW {neg : Bool} : OpR X (compareOp (if neg then .IsNot else .Is)) (fun x y H Q => ∃ dx dy b, RdD X.K H x dx ∧ RdD X.K H y dy ∧ isD dx dy = some b ∧ Q (.bl (if neg then !b else b)) H) := by
  intro pins s σ H x y v u Q I rx ry h
  obtain ⟨d, e, b, hd, he, eq, q⟩ := h
  cases e with
  | none =>
    cases eq
    cases (show y = V.non from he)
    rw [← non_iff hd] at q
    cases neg with
    | false => exact op_isN pins s σ H _ _ v u Q I rx ry ⟨rfl, q⟩
    | true => exact op_notN pins s σ H _ _ v u Q I rx ry ⟨rfl, q⟩
  | bool c =>
    cases d with
    | bool a =>
      cases eq
      cases hd; cases he
      rw [show (a == c) = decide (a = c) by cases a <;> cases c <;> rfl] at q
      cases neg with
      | false => exact op_isBl pins s σ H _ _ v u Q I rx ry ⟨a, c, rfl, rfl, q⟩
      | true => exact op_notBl pins s σ H _ _ v u Q I rx ry ⟨a, c, rfl, rfl, q⟩
    | _ => cases eq
  | _ => cases eq
theorem op_cmp (hu : X.A.units + 65 < cLine) (o : COp) : OpR X (compareOp (cop o)) (rCmpD X.K o) := by
  intro pins s σ H x y v u Q I rx ry h
  obtain ⟨dx, dy, b, hx, hy, e, q⟩ := h
  have I2 : ∀ {i j : Int}, dx = .int i → dy = .int j → x = .int i ∧ y = .int j := fun {i j} e1 e2 => by
    subst e1 e2
    exact ⟨hx, hy⟩
  cases o with
  | eq => exact op_eqW (by omega) (neg := false) pins s σ H x y v u Q I rx ry ⟨dx, dy, b, hx, hy, e, q⟩
  | ne =>
    obtain ⟨b', e1, e2⟩ := Option.map_eq_some_iff.mp e
    subst e2
    exact op_eqW (by omega) (neg := true) pins s σ H x y v u Q I rx ry ⟨dx, dy, b', hx, hy, e1, q⟩
  | isin => exact op_inW hu (neg := false) pins s σ H x y v u Q I rx ry ⟨dx, dy, b, hx, hy, e, q⟩
  | notin =>
    obtain ⟨b', e1, e2⟩ := Option.map_eq_some_iff.mp e
    subst e2
    exact op_inW hu (neg := true) pins s σ H x y v u Q I rx ry ⟨dx, dy, b', hx, hy, e1, q⟩
  | is => exact op_isW (neg := false) pins s σ H x y v u Q I rx ry ⟨dx, dy, b, hx, hy, e, q⟩
  | isnot =>
    obtain ⟨b', e1, e2⟩ := Option.map_eq_some_iff.mp e
    subst e2
    exact op_isW (neg := true) pins s σ H x y v u Q I rx ry ⟨dx, dy, b', hx, hy, e1, q⟩
  | lt =>
    cases dx with
    | int i =>
      cases dy with
      | int j => cases e; obtain ⟨rfl, rfl⟩ := I2 rfl rfl; exact op_lt pins s σ H _ _ v u Q I rx ry ⟨i, j, rfl, rfl, q⟩
      | _ => cases e
    | _ => cases dy <;> cases e
  | le =>
    cases dx with
    | int i =>
      cases dy with
      | int j => cases e; obtain ⟨rfl, rfl⟩ := I2 rfl rfl; exact op_le pins s σ H _ _ v u Q I rx ry ⟨i, j, rfl, rfl, q⟩
      | _ => cases e
    | _ => cases dy <;> cases e
  | gt =>
    cases dx with
    | int i =>
      cases dy with
      | int j => cases e; obtain ⟨rfl, rfl⟩ := I2 rfl rfl; exact op_gt pins s σ H _ _ v u Q I rx ry ⟨i, j, rfl, rfl, q⟩
      | _ => cases e
    | _ => cases dy <;> cases e
  | ge =>
    cases dx with
    | int i =>
      cases dy with
      | int j => cases e; obtain ⟨rfl, rfl⟩ := I2 rfl rfl; exact op_ge pins s σ H _ _ v u Q I rx ry ⟨i, j, rfl, rfl, q⟩
      | _ => cases e
    | _ => cases dy <;> cases e

/-! ### truth, length, items, slices -/
theorem RdD.tru {K : PySem.W.Frag} {H : Hp} {v : V} {d : PyData} {k : Bool} (h : RdD K H v d) (e : truthy d = some k) : TruV K v H k := by
  cases d with
  | none => cases (show v = V.non from h); cases e; rfl
  | bool b => cases (show v = V.bl b from h); cases e; rfl
  | int i => cases (show v = V.int i from h); cases e; rfl
  | str x =>
    cases (show v = V.str x from h)
    by_cases hz : x.length ≤ szl
    · have e' : some ((x.length : Int) != 0) = some k := by rw [← e]; exact (if_pos hz).symm
      cases e'
      exact ⟨by rw [← szl_eq]; exact hz, rfl⟩
    · have e' : none = some k := by rw [← e]; exact (if_neg hz).symm
      cases e'
  | list l =>
    obtain ⟨a, xs, rfl, h1, r⟩ := h
    cases e
    refine .inl ⟨xs, h1, ?_⟩
    cases r <;> rfl
  | tuple l =>
    obtain ⟨a, xs, rfl, h1, r⟩ := h
    cases e
    refine .inr (.inl ⟨xs, h1, ?_⟩)
    cases r <;> rfl
  | dict l => exact False.elim h
theorem ixN_lt {n : Nat} {i : Int} {j : Nat} (h : ixN n i = some j) : j < n := (ixN_seq h).2.1
theorem atI_reps {K : PySem.W.Frag} {H : Hp} {xs : List V} {ds : List PyData} {i : Int} {d : PyData} (r : Reps K H xs ds) (e : atI ds i = some d) : ∃ v, atI xs i = some v ∧ Rep K H v d := by
  unfold atI at e ⊢
  rw [r.length]
  cases q : ixN ds.length i with
  | none => rw [q] at e; cases e
  | some j =>
    rw [q] at e
    exact r.get e
def rIdx (K : PySem.W.Frag) : R2 := fun x y H Q => ∃ dx dy d, RdD K H x dx ∧ RdD K H y dy ∧ idxD dx dy = some d ∧ RNew K H Q (.val d)
theorem ix_data : IxR X (rIdx X.K) := by
  have key : ∀ x y H Q, rIdx X.K x y H Q → rIx X.K x y H Q := fun x y H Q h => by
    obtain ⟨dx, dy, d, hx, hy, e, q⟩ := h
    cases dx with
    | list l =>
      cases dy with
      | int i =>
        obtain ⟨p, xs, rfl, h1, r1⟩ := hx
        cases (show y = V.int i from hy)
        obtain ⟨v, e1, r2⟩ := atI_reps r1 e
        exact .inl ⟨p, xs, i, v, rfl, rfl, h1, e1, q.here r2⟩
      | _ => cases e
    | tuple l =>
      cases dy with
      | int i =>
        obtain ⟨p, xs, rfl, h1, r1⟩ := hx
        cases (show y = V.int i from hy)
        obtain ⟨v, e1, r2⟩ := atI_reps r1 e
        exact .inr (.inl ⟨p, xs, i, v, rfl, rfl, h1, e1, q.here r2⟩)
      | _ => cases e
    | str z =>
      cases dy with
      | int i =>
        cases (show x = V.str z from hx)
        cases (show y = V.int i from hy)
        by_cases hz : z.length ≤ szl
        · have e' : (atI z.cps.toList i).map (fun c => PyData.str ⟨#[c]⟩) = some d := by rw [← e]; exact (if_pos hz).symm
          obtain ⟨c, e1, e2⟩ := Option.map_eq_some_iff.mp e'
          subst e2
          exact .inr (.inr ⟨z, i, c, rfl, rfl, by rw [← szl_eq]; exact hz, e1, q.here (.str _)⟩)
        · have e' : none = some d := by rw [← e]; exact (if_neg hz).symm
          cases e'
      | _ => cases e
    | _ => cases dy <;> cases e
  intro value slice pins s σ H x y v u Q I rx ry h hs
  exact ix_seq value slice pins s σ H x y v u Q I rx ry (key _ _ _ _ h) hs
def rSl (K : PySem.W.Frag) : V → Option Int → Option Int → Hp → VK → Prop := fun x lo hi H Q => ∃ dx r, RdD K H x dx ∧ slD dx lo hi = some r ∧ RNew K H Q r
theorem sl_data : SlR X (rSl X.K) := by
  intro pins s σ H x v vl vu lo hi sl Q I rx hs pl pu h
  obtain ⟨dx, r, hx, e, q⟩ := h
  cases dx with
  | list l =>
    cases e
    obtain ⟨p, xs, rfl, h1, r1⟩ := hx
    exact sl_list pins s σ H _ v vl vu lo hi sl Q I rx hs pl pu ⟨p, xs, rfl, h1, q.list (r1.cut lo hi)⟩
  | tuple l =>
    cases e
    obtain ⟨p, xs, rfl, h1, r1⟩ := hx
    refine sl_tupA pins s σ H _ v vl vu lo hi sl Q I rx hs pl pu ⟨p, xs, rfl, h1, fun z => ?_, fun _ => q.tuple (r1.cut lo hi)⟩
    have r2 := r1.cut lo hi
    have e1 : cutV xs lo hi = xs := by
      unfold cutV
      rw [z.1, z.2, List.drop_zero, Nat.sub_zero, List.take_length]
    rw [e1] at r2
    exact q.here (.tup h1 r2)
  | str z =>
    by_cases hz : z.length ≤ szl
    · have e' : some (EV.val (.str ⟨(cutL z.cps.toList lo hi).toArray⟩)) = some r := by rw [← e]; exact (if_pos hz).symm
      cases e'
      cases (show x = V.str z from hx)
      refine sl_str pins s σ H _ v vl vu lo hi sl Q I rx hs pl pu ⟨z, rfl, by rw [← szl_eq]; exact hz, ?_⟩
      have e2 : cutS z lo hi = ⟨(cutL z.cps.toList lo hi).toArray⟩ := by
        unfold cutS cutL
        simp [Str.length]
      rw [e2]
      exact q.here (.str _)
    · have e' : none = some r := by rw [← e]; exact (if_neg hz).symm
      cases e'
  | _ => cases e
end
end Dn
/-! Den4: built-ins by data; expressions -/
namespace Dn
open PySem PySem.Spec PyProof.Rows L2

abbrev RdDs (K : PySem.W.Frag) (H : Hp) : List V → List PyData → Prop := Paired (RdD K H)
theorem RdDs.one {K : PySem.W.Frag} {H : Hp} {xs : List V} {d : PyData} (h : RdDs K H xs [d]) : ∃ x, xs = [x] ∧ RdD K H x d := by
  cases h with
  | cons a b => cases b; exact ⟨_, rfl, a⟩
theorem RdDs.two {K : PySem.W.Frag} {H : Hp} {xs : List V} {d e : PyData} (h : RdDs K H xs [d, e]) : ∃ x y, xs = [x, y] ∧ RdD K H x d ∧ RdD K H y e := by
  cases h with
  | cons a b =>
    cases b with
    | cons c b => cases b; exact ⟨_, _, rfl, a, c⟩
def rBlt (K : PySem.W.Frag) (b : Blt) : List V → Hp → VK → Prop := fun xs H Q => ∃ ds r, RdDs K H xs ds ∧ bltD b ds = some r ∧ RNew K H Q r
theorem bools_of {K : PySem.W.Frag} {H : Hp} : ∀ {xs : List V} {ds : List PyData} {bs : List Bool}, Reps K H xs ds → boolsOf ds = some bs → xs = bs.map V.bl
  | _, _, _, .nil, e => by cases e; rfl
  | _, _, _, .cons (d := d) r rs, e => by
    cases d with
    | bool b =>
      obtain ⟨l, e1, e2⟩ := Option.map_eq_some_iff.mp (show (boolsOf _).map (b :: ·) = some _ from e)
      subst e2
      cases r
      rw [bools_of rs e1]
      rfl
    | _ => cases e
section
variable {X : Cx}
theorem call_lenD : CallR X (.builtin "len") (rBlt X.K .len) := by
  intro pins s σ H xs us Q I r h
  obtain ⟨ds, e, hd, he, q⟩ := h
  match ds, hd, he with
  | [.str x], hd, he =>
    obtain ⟨v, rfl, hv⟩ := hd.one
    cases (show v = V.str x from hv)
    by_cases hz : x.length ≤ szl
    · have e' : some (EV.val (.int x.length)) = some e := by rw [← he]; exact (if_pos hz).symm
      cases e'
      exact call_len pins s σ H _ us Q I r ⟨_, x.length, rfl, ⟨by rw [← szl_eq]; exact hz, rfl⟩, q.here (.int _)⟩
    · have e' : none = some e := by rw [← he]; exact (if_neg hz).symm
      cases e'
  | [.list l], hd, he =>
    obtain ⟨v, rfl, p, xs, rfl, h1, r1⟩ := hd.one
    cases he
    exact call_len pins s σ H _ us Q I r ⟨_, l.length, rfl, .inl ⟨xs, h1, r1.length.symm⟩, q.here (.int _)⟩
  | [.tuple l], hd, he =>
    obtain ⟨v, rfl, p, xs, rfl, h1, r1⟩ := hd.one
    cases he
    exact call_len pins s σ H _ us Q I r ⟨_, l.length, rfl, .inr ⟨xs, h1, r1.length.symm⟩, q.here (.int _)⟩
theorem call_absD : CallR X (.builtin "abs") (rBlt X.K .abs) := by
  intro pins s σ H xs us Q I r h
  obtain ⟨ds, e, hd, he, q⟩ := h
  match ds, hd, he with
  | [.int i], hd, he =>
    obtain ⟨v, rfl, hv⟩ := hd.one
    cases (show v = V.int i from hv)
    cases he
    exact call_abs pins s σ H _ us Q I r ⟨i, rfl, q.here (.int _)⟩
theorem call_intD : CallR X (.type "int") (rBlt X.K .int) := by
  intro pins s σ H xs us Q I r h
  obtain ⟨ds, e, hd, he, q⟩ := h
  match ds, hd, he with
  | [.int i], hd, he =>
    obtain ⟨v, rfl, hv⟩ := hd.one
    cases (show v = V.int i from hv)
    cases he
    exact call_int1 pins s σ H _ us Q I r (.inl ⟨i, rfl, q.here (.int _)⟩)
  | [.bool b], hd, he =>
    obtain ⟨v, rfl, hv⟩ := hd.one
    cases (show v = V.bl b from hv)
    cases he
    exact call_int1 pins s σ H _ us Q I r (.inr ⟨b, rfl, q.here (.int _)⟩)
theorem call_tupleD : CallR X (.type "tuple") (rBlt X.K .tuple) := by
  intro pins s σ H xs us Q I r h
  obtain ⟨ds, e, hd, he, q⟩ := h
  match ds, hd, he with
  | [.list l], hd, he =>
    obtain ⟨v, rfl, p, xs, rfl, h1, r1⟩ := hd.one
    cases he
    exact call_tuple_of pins s σ H _ us Q I r ⟨p, xs, rfl, .inl ⟨h1, q.tuple r1⟩⟩
  | [.tuple l], hd, he =>
    obtain ⟨v, rfl, p, xs, rfl, h1, r1⟩ := hd.one
    cases he
    exact call_tuple_of pins s σ H _ us Q I r ⟨p, xs, rfl, .inr ⟨h1, q.here (.tup h1 r1)⟩⟩
theorem call_listD : CallR X (.type "list") (rBlt X.K .list) := by
  intro pins s σ H xs us Q I r h
  obtain ⟨ds, e, hd, he, q⟩ := h
  match ds, hd, he with
  | [.list l], hd, he =>
    obtain ⟨v, rfl, p, xs, rfl, h1, r1⟩ := hd.one
    cases he
    exact call_list_of pins s σ H _ us Q I r ⟨p, xs, rfl, .inl h1, q.list r1⟩
  | [.tuple l], hd, he =>
    obtain ⟨v, rfl, p, xs, rfl, h1, r1⟩ := hd.one
    cases he
    exact call_list_of pins s σ H _ us Q I r ⟨p, xs, rfl, .inr h1, q.list r1⟩
theorem call_allD (hc : X.calm = true) : CallR X (.builtin "all") (rBlt X.K .all) := by
  intro pins s σ H xs us Q I r h
  obtain ⟨ds, e, hd, he, q⟩ := h
  match ds, hd, he with
  | [.list l], hd, he =>
    obtain ⟨v, rfl, p, xs, rfl, h1, r1⟩ := hd.one
    obtain ⟨bs, e1, e2⟩ := Option.map_eq_some_iff.mp (show (boolsOf l).map _ = some _ from he)
    subst e2
    rw [bools_of r1 e1] at h1
    exact cr_all hc pins s σ H _ us Q I r ⟨p, bs, rfl, h1, q.here (.bl _)⟩
theorem call_anyD (hc : X.calm = true) : CallR X (.builtin "any") (rBlt X.K .any) := by
  intro pins s σ H xs us Q I r h
  obtain ⟨ds, e, hd, he, q⟩ := h
  match ds, hd, he with
  | [.list l], hd, he =>
    obtain ⟨v, rfl, p, xs, rfl, h1, r1⟩ := hd.one
    obtain ⟨bs, e1, e2⟩ := Option.map_eq_some_iff.mp (show (boolsOf l).map _ = some _ from he)
    subst e2
    rw [bools_of r1 e1] at h1
    exact cr_any hc pins s σ H _ us Q I r ⟨p, bs, rfl, h1, q.here (.bl _)⟩
theorem call_maxD (hc : X.calm = true) : CallR X (.builtin "max") (rBlt X.K .max) := by
  intro pins s σ H xs us Q I r h
  obtain ⟨ds, e, hd, he, q⟩ := h
  match ds, hd, he with
  | [.int i, .int j], hd, he =>
    obtain ⟨v, w, rfl, hv, hw⟩ := hd.two
    cases (show v = V.int i from hv)
    cases (show w = V.int j from hw)
    cases he
    exact call_max2 hc pins s σ H _ us Q I r ⟨i, j, rfl, q.here (.int _)⟩
theorem call_minD (hc : X.calm = true) : CallR X (.builtin "min") (rBlt X.K .min) := by
  intro pins s σ H xs us Q I r h
  obtain ⟨ds, e, hd, he, q⟩ := h
  match ds, hd, he with
  | [.int i, .int j], hd, he =>
    obtain ⟨v, w, rfl, hv, hw⟩ := hd.two
    cases (show v = V.int i from hv)
    cases (show w = V.int j from hw)
    cases he
    exact call_min2 hc pins s σ H _ us Q I r ⟨i, j, rfl, q.here (.int _)⟩
theorem call_reprD (hg : X.A.guards = some []) (hu : X.A.units + 100 < cLine) : CallR X (.builtin "repr") (rBlt X.K .repr) := by
  intro pins s σ H xs us Q I r h
  obtain ⟨ds, e, hd, he, q⟩ := h
  match ds, hd, he with
  | [d], hd, he =>
    obtain ⟨v, rfl, hv⟩ := hd.one
    by_cases hz : d.showable = true ∧ d.hasDict = false ∧ d.shown.length ≤ szl ∧ d.depth ≤ 64
    · have e' : some (EV.val (.str d.shown)) = some e := by rw [← he]; exact (if_pos hz).symm
      cases e'
      obtain ⟨u, rfl, ru⟩ := vals1 r
      obtain ⟨h1, h2, h3, h4⟩ := hz
      rw [szl_eq] at h3
      have fin : ∀ h' t tk, (∀ b o, s.heap.get? b = some o → h'.get? b = some o) → EP X pins σ Q (.str d.shown t) { s with heap := h', toks := tk } := fun h' t tk hk =>
        ⟨.str d.shown, H, I.kept hk, ⟨t, rfl⟩, q.here (.str _)⟩
      obtain ⟨as, rr⟩ := hv.reads I ru
      have nd : d.hasDict = true → sysModules ∉ as := fun z => by rw [h2] at z; cases z
      cases d with
      | none =>
        cases (show v = V.non from hv); cases ru
        exact PySem.P.repr_of_none (fin s.heap _ _ fun _ _ e => e)
      | bool b =>
        cases (show v = V.bl b from hv); cases ru
        exact PySem.P.repr_of_bool (fin s.heap _ _ fun _ _ e => e)
      | int i =>
        cases (show v = V.int i from hv); obtain ⟨t, rfl⟩ := ru
        exact PySem.P.repr_of_int (by simpa [PyData.showable] using h1) (fin s.heap _ _ fun _ _ e => e)
      | str x =>
        cases (show v = V.str x from hv); obtain ⟨t, rfl⟩ := ru
        exact PySem.P.repr_of_str (fin s.heap _ _ fun _ _ e => e) (by simpa [PyData.shown] using h3)
      | list l =>
        obtain ⟨p, xs, rfl, _⟩ := hv
        cases ru
        exact repr_of_reads' rr h1 nd hg (by omega) (fun _ _ e => e) fin h3
      | tuple l =>
        obtain ⟨p, xs, rfl, _⟩ := hv
        cases ru
        exact repr_of_reads' rr h1 nd hg (by omega) (fun _ _ e => e) fin h3
      | dict l => exact False.elim hv
    · have e' : none = some e := by rw [← he]; exact (if_neg hz).symm
      cases e'
end
end Dn
/-! Den5: expressions -/
namespace Dn
open PySem PySem.Spec PyProof.Rows L2

/-! ### a tuple from behind -/
section
variable {prog : Program} {w : World} {A : Around} {E : Value → Shared → Prop} {s : Shared}
theorem sliceApplied_rev {sl : Addr} {n : Nat} {u : Tok} {Q : Int × Int × Nat → Shared → Prop} (hs : s.heap.IsSliceOf sl .none .none (.int (-1) u))
    (h : Q ((n : Int) - 1, -1, n) s) : wpAny (model prog w) A (Builtin.Slice.sliceApplied (.ref sl) (pure (n : Int))) Q E s := by
  obtain ⟨os, hos, hcs, hds⟩ := id hs
  unfold Builtin.Slice.sliceApplied Builtin.Slice.sliceFields
  refine wpAny_bind (wpAny_bind (wpAny_field hos hds (x := .none) rfl (wpAny_bind (wpAny_field hos hds (x := .none) rfl (wpAny_bind (wpAny_field hos hds (x := .int (-1) u) rfl (wpAny_pure ?_)))))))
  refine wpAny_bind (slicePart_int ?_)
  show wpAny _ _ (if ((-1 : Int) == 0) = true then _ else _) _ _ s
  rw [if_neg (by decide)]
  refine wpAny_bind (slicePart_none (wpAny_bind (slicePart_none (wpAny_bind (wpAny_pure ?_)))))
  show wpAny _ _ (match Builtin.Slice.sliceAdjust none none (-1) (n : Int) with | (lo, hi) => pure (lo, (-1 : Int), Builtin.Slice.slicePlaces lo hi (-1))) _ _ s
  have e : Builtin.Slice.sliceAdjust none none (-1) (n : Int) = ((n : Int) - 1, -1) := by
    unfold Builtin.Slice.sliceAdjust
    simp
  rw [e]
  have e2 : Builtin.Slice.slicePlaces ((n : Int) - 1) (-1) (-1) = n := by
    unfold Builtin.Slice.slicePlaces
    simp only [show ¬ ((-1 : Int) > 0) by omega, if_false]
    by_cases hn : n = 0
    · subst hn; rfl
    · rw [if_pos (by omega)]
      have : ((n : Int) - 1 - -1 - 1) / (- -1) + 1 = n := by
        rw [show (- -1 : Int) = 1 by rfl, Int.ediv_one]; omega
      rw [this]; omega
  show wpAny _ _ (pure ((n : Int) - 1, (-1 : Int), Builtin.Slice.slicePlaces ((n : Int) - 1) (-1) (-1))) _ _ s
  rw [e2]
  exact wpAny_pure h
theorem fm_congr {α β : Type} {f g : α → Option β} : ∀ {l : List α}, (∀ a ∈ l, f a = g a) → l.filterMap f = l.filterMap g
  | [], _ => rfl
  | a :: l, h => by
    rw [List.filterMap_cons, List.filterMap_cons, h a List.mem_cons_self, fm_congr fun b hb => h b (List.mem_cons_of_mem _ hb)]
theorem pick_rev (xs : Array Value) : ((List.range xs.size).filterMap fun (m : Nat) => xs[((xs.size : Int) - 1 + (m : Int) * (-1)).toNat]?).toArray = xs.toList.reverse.toArray := by
  have e := PySem.W.krv_all xs.toList.reverse.toArray
  have hl : xs.toList.reverse.toArray.size = xs.size := by rw [List.size_toArray, List.length_reverse, Array.length_toList]
  rw [hl] at e
  congr 1
  rw [show xs.toList.reverse = xs.toList.reverse.toArray.toList from rfl, ← e]
  refine fm_congr fun m hm => ?_
  have hm : m < xs.size := List.mem_range.mp hm
  have e1 : xs.toList.reverse.toArray[m]? = xs.toList.reverse[m]? := by simp
  rw [e1, List.getElem?_reverse (by rw [Array.length_toList]; exact hm), Array.length_toList, Array.getElem?_toList]
  congr 1
  omega
theorem getItem_tuple_rev {t sl : Addr} {items : Array Value} {u : Tok} {Q : Value → Shared → Prop} (ht : IsTup s.heap t items) (hs : s.heap.IsSliceOf sl .none .none (.int (-1) u))
    (h : Q (.ref s.heap.objs.size) { s with heap := s.heap.push { cls := .type "tuple", data := .seq items.toList.reverse.toArray } })
    (hsz : items.size ≤ sizeLine) : wpAny (model prog w) A (getItem (.ref t) (.ref sl)) Q E s := by
  have htake : sizeOk (.seq items.toList.reverse.toArray) := by
    show items.toList.reverse.toArray.size ≤ sizeLine
    rw [List.size_toArray, List.length_reverse, Array.length_toList]
    exact hsz
  obtain ⟨os, hos, hcs, hds⟩ := id hs
  have hTs : s.TypeIs (.ref sl) "slice" := ⟨os, hos, hcs⟩
  unfold getItem
  try with_reducible refine wpAny_holding ?_
  first | refine wpAny_bind (wpAny_pure ?_) | skip
  refine wpAny_bind (wpAny_sequenceKey ht.typeIs (by decide) ?_)
  refine wpAny_bind (wpAny_callSpecial?_slot (name := Str.ofString "__getitem__") ht.typeIs PyProof.Rows.slot_tuple_getitem
    (wpAny_call_entry PyProof.Rows.slot_tuple_getitem ht.typeIs entry_tuple_getitem ?_ (args_tuple_getitem _ _)))
  show wpAny _ _ (Builtin.Tuple.tupleItemsOf (.ref t) >>= _) _ _ s
  refine wpAny_bind (tupleItemsOf_ ht ?_)
  refine wpAny_bind (wpAny_typeOf hTs ?_)
  rw [if_pos (by decide)]
  refine wpAny_bind (sliceApplied_rev hs ?_)
  have hno : ¬ ((((items.size : Int) - 1) == 0 && (-1 : Int) == 1 && items.size == items.size) = true) := by
    rw [show ((-1 : Int) == 1) = false from rfl, Bool.and_false, Bool.false_and]
    exact Bool.false_ne_true
  show wpAny _ _ (if (((items.size : Int) - 1) == 0 && (-1 : Int) == 1 && items.size == items.size) = true then _ else _) _ _ s
  rw [if_neg hno, pick_rev]
  first
    | exact wpAny_bind (m := Builtin.Tuple.tupleExact _) (wpAny_newObj_type (wpAny_pure ⟨_, rfl, wpAny_pure h⟩) htake)
    | exact wpAny_bind (m := Builtin.Tuple.tupleExact _) (wpAny_newObj_type (wpAny_bind (wpAny_pure (wpAny_pure ⟨_, rfl, wpAny_pure h⟩))) htake)
    | exact wpAny_bind (wpAny_bind (m := Builtin.Tuple.tupleExact _) (wpAny_newObj_type (wpAny_pure (wpAny_pure ⟨_, rfl, wpAny_pure h⟩)) htake))
    | exact wpAny_bind (wpAny_bind (m := Builtin.Tuple.tupleExact _) (wpAny_newObj_type (wpAny_pure ⟨_, rfl, wpAny_pure h⟩) htake))
end

theorem Want.on {α β : Type} {o : Option α} {f : α → Res β} {P : β → Env → Prop} (h : Want (on o f) P) : ∃ a, o = some a ∧ Want (f a) P := by
  cases o with
  | none => exact False.elim h
  | some a => exact ⟨a, rfl, h⟩
theorem on_inv {α β : Type} {o : Option α} {f : α → Res β} {b : β} {ρ : Env} (h : on o f = .ok b ρ) : ∃ a, o = some a ∧ f a = .ok b ρ := by
  cases o with
  | none => cases h
  | some a => exact ⟨a, rfl, h⟩
theorem RepEV.back {K : PySem.W.Frag} {σ : St} {H H2 H' : Hp} {v : V} {z : EV} (f : ∀ b, H2 b = none → H b = none) (h : RepEV K σ H2 H' v z) : RepEV K σ H H' v z := by
  cases z with
  | val d => exact h
  | fr d => obtain ⟨a, e, n, r⟩ := h; exact ⟨a, e, f a n, r⟩
  | al i => exact h
theorem RepEV.toRV {K : PySem.W.Frag} {σ : St} {H H' : Hp} {v : V} {d : PyData} (h : RepEV K σ H H' v (.val d)) : RepRV K σ H' v (.dat d) := h
theorem RNew.of {G : Gh} {K : PySem.W.Frag} {md : List Bool} {σ : St} {ρ : Env} {H : Hp} {Q : VK} {z : EV} (R : RS G K md σ ρ H)
    (p : ∀ v H', Fr σ ρ H H' → Sub ρ ρ → RS G K md σ ρ H' → RepEV K σ H H' v z → Q v H') : RNew K H Q z := fun v H' e r => by
  refine p v H' (Fr.grow e) (Sub.refl ρ) (R.grow e) ?_
  cases z with
  | val d => exact r
  | fr d => exact r
  | al i => exact False.elim r
/-- what comes behind -/
abbrev Aft (G : Gh) (K : PySem.W.Frag) (md : List Bool) (σ : St) (ρ : Env) (H : Hp) (Q : VK) : EV → Env → Prop := fun z ρ' => ∀ v H', Fr σ ρ H H' → Sub ρ ρ' → RS G K md σ ρ' H' → RepEV K σ H H' v z → Q v H'
theorem Aft.back {G : Gh} {K : PySem.W.Frag} {md : List Bool} {σ : St} {ρ ρ1 : Env} {H H1 : Hp} {Q : VK} {z : EV} {ρ' : Env} (fr : Fr σ ρ H H1) (sb : Sub ρ ρ1) (p : Aft G K md σ ρ H Q z ρ') : Aft G K md σ ρ1 H1 Q z ρ' :=
  fun v H' fr' sb' R' rep => p v H' (fr.trans sb fr') (sb.trans sb') R' (rep.back fr.2)
section
variable {K : PySem.W.Frag} {md : List Bool} {σ : St} {H : Hp} {Q : VK}
theorem one {fa : Env → Res EV} {Fn : EV → Env → Res EV} {r : V → Hp → VK → Prop} (w : tE K md (fun ρ => (fa ρ).bind fun x ρ => Fn x ρ) σ H Q)
    (g : ∀ G ρ x v H1, RS G K md σ ρ H1 → RepRV K σ H1 v (toR x) → Want (Fn x ρ) (Aft G K md σ ρ H1 Q) → r v H1 Q) : tUn r (tR K md fa) σ H Q := by
  obtain ⟨G, ρ, R, w⟩ := w
  exact ⟨G, ρ, R, w.bind.mono fun x ρ1 w1 v H1 fr1 sb1 R1 rep1 => g G ρ1 x v H1 R1 rep1 (w1.mono fun z ρ' p => Aft.back fr1 sb1 p)⟩
theorem two {fa fb : Env → Res EV} {Fn : EV → EV → Env → Res EV} {r : R2} (w : tE K md (fun ρ => (fa ρ).bind fun x ρ => (fb ρ).bind fun y ρ => Fn x y ρ) σ H Q)
    (g : ∀ G ρ x y v u H2, RS G K md σ ρ H2 → RepRV K σ H2 v (toR x) → RepRV K σ H2 u (toR y) → Want (Fn x y ρ) (Aft G K md σ ρ H2 Q) → r v u H2 Q) : tOp r (tR K md fa) (tR K md fb) σ H Q := by
  obtain ⟨G, ρ, R, w⟩ := w
  exact ⟨G, ρ, R, w.bind.mono fun x ρ1 w1 v H1 fr1 sb1 R1 rep1 => ⟨G, ρ1, R1, w1.bind.mono fun y ρ2 w2 u H2 fr2 sb2 R2 rep2 =>
    g G ρ2 x y v u H2 R2 (rep1.mono (R1.ext fr2)) rep2 (w2.mono fun z ρ' p => Aft.back (fr1.trans sb1 fr2) (sb1.trans sb2) p)⟩⟩
end
section
variable (md : List Bool) (modes : Nat → List Bool) (call : Calls)
/-- the expression e is what m says -/
def PD (X : Cx) (e : Expr) (m : ME) : Prop := PE X e (tE X.K md (evalE md modes call m))
def TD (X : Cx) (e : Expr) (m : ME) : Prop := PT X e (tTr X.K md (evalT md modes call m))
end
section
variable {md : List Bool} {modes : Nat → List Bool} {call : Calls} {X : Cx} {a b c : Expr} {ma mb mc : ME} {pos : Pos}
theorem pd_int {i : Int} {j : Nat} : PD md modes call X (.Constant (.int i) j pos) (.c (.int i)) := PE.imp pe_int fun σ H Q ⟨G, ρ, R, w⟩ => w (.int i) H Fr.refl (Sub.refl ρ) R (.int i)
theorem pd_bl {i : Bool} {j : Nat} : PD md modes call X (.Constant (.bool i) j pos) (.c (.bool i)) := PE.imp pe_bl fun σ H Q ⟨G, ρ, R, w⟩ => w (.bl i) H Fr.refl (Sub.refl ρ) R (.bl i)
theorem pd_str {i : Str} {j : Nat} : PD md modes call X (.Constant (.str i) j pos) (.c (.str i)) := PE.imp pe_str fun σ H Q ⟨G, ρ, R, w⟩ => w (.str i) H Fr.refl (Sub.refl ρ) R (.str i)
theorem pd_non {j : Nat} : PD md modes call X (.Constant .none j pos) (.c .none) := PE.imp pe_non fun σ H Q ⟨G, ρ, R, w⟩ => w .non H Fr.refl (Sub.refl ρ) R .non
theorem pd_glob {x : Str} {v : V} {u : Value} {d : PyData} (hg : Gl X x) (hm : X.mg x = some u) (r : RelV v u) (rp : ∀ H, Rep X.K H v d) (hd : (x == ("__debug__" : Str)) = false := by decide) : PD md modes call X (.Name x pos) (.c d) :=
  PE.imp (pe_glob hg hm r hd) fun σ H Q ⟨G, ρ, R, w⟩ => w v H Fr.refl (Sub.refl ρ) R (rp H)
theorem pd_v (i : Nat) {x : Str} (hN : X.N[i]? = some x) (hv : Vis X.env.scope x) (hd : (x == ("__debug__" : Str)) = false := by decide) (hcd : (x == ("__classdict__" : Str)) = false := by decide) : PD md modes call X (.Name x pos) (.v i) := by
  refine PE.imp (pe_var hN hv hd hcd) fun σ H Q ⟨G, ρ, R, w⟩ => ?_
  have w : Want (match ρ[i]? with
    | some (.val d) => Res.ok (EV.val d) ρ
    | some (.own _) => .ok (.al i) ρ
    | _ => .stuck) (Aft G X.K md σ ρ H Q) := w
  cases e : ρ[i]? with
  | none => rw [e] at w; exact False.elim w
  | some s =>
    rw [e] at w
    cases s with
    | un => exact False.elim w
    | val d =>
      obtain ⟨v, h1, h2⟩ := R.val i d e
      exact ⟨v, h1, w v H Fr.refl (Sub.refl ρ) R h2⟩
    | own d =>
      obtain ⟨v, h1, h2⟩ := R.own i d e
      exact ⟨v, h1, w v H Fr.refl (Sub.refl ρ) R h1⟩
theorem pd_bin (o : BOp) (ha : PD md modes call X a ma) (hb : PD md modes call X b mb) : PD md modes call X (.BinOp a (bop o) b pos) (.bin o ma mb) := by
  refine PE.imp (pe_op (op_bin o) (PE.toR ha) (PE.toR hb)) fun σ H Q w => two w fun G ρ x y v u H2 R r1 r2 w => ?_
  obtain ⟨d1, e1, w⟩ := Want.on w
  obtain ⟨d2, e2, w⟩ := Want.on w
  obtain ⟨r, e3, p⟩ := Want.ofO w
  exact ⟨d1, d2, r, r1.rd R e1, r2.rd R e2, e3, RNew.of R p⟩
theorem pd_neg (ha : PD md modes call X a ma) : PD md modes call X (.UnaryOp .USub a pos) (.neg ma) := by
  refine PE.imp (pe_un un_neg (PE.toR ha)) fun σ H Q w => one w fun G ρ x v H1 R r1 w => ?_
  cases x with
  | val d =>
    cases d with
    | int i =>
      have r1 : Rep X.K H1 v (.int i) := r1
      cases r1
      exact ⟨i, rfl, (RNew.of R w).here (.int _)⟩
    | _ => exact False.elim w
  | _ => exact False.elim w
theorem cmp_of {G : Gh} {K : PySem.W.Frag} {σ : St} {ρ : Env} {H : Hp} {Q : VK} {o : COp} {x y : EV} {v u : V} (R : RS G K md σ ρ H) (r1 : RepRV K σ H v (toR x)) (r2 : RepRV K σ H u (toR y)) {F : Bool → Res EV} {P : EV → Env → Prop}
    (w : Want (on (deref ρ (toR x)) fun x => on (deref ρ (toR y)) fun y => on (cmpD o x y) F) P) (g : ∀ b, Want (F b) P → Q (.bl b) H) : rCmpD K o v u H Q := by
  obtain ⟨d1, e1, w⟩ := Want.on w
  obtain ⟨d2, e2, w⟩ := Want.on w
  obtain ⟨k, e3, p⟩ := Want.on w
  exact ⟨d1, d2, k, r1.rd R e1, r2.rd R e2, e3, g k p⟩
theorem pd_cmp (o : COp) (hu : X.A.units + 65 < cLine) (ha : PD md modes call X a ma) (hb : PD md modes call X b mb) (hm : behindInMarks (cop o) b = false) : PD md modes call X (.Compare a [cop o] [b] pos) (.cmp o ma mb) := by
  refine PE.imp (pe_cmpR (op_cmp hu o) (PE.toR ha) (PE.toR hb) hm) fun σ H Q w => two w fun G ρ x y v u H2 R r1 r2 w => ?_
  exact cmp_of R r1 r2 w fun k w => (RNew.of R w).here (.bl _)
theorem Want.mono_eq {α : Type} {r : Res α} {P P' : α → Env → Prop} (h : Want r P) (g : ∀ a ρ, r = .ok a ρ → P a ρ → P' a ρ) : Want r P' := by
  cases r with
  | ok a ρ => exact g _ _ rfl h
  | exc x ρ => exact h
  | stuck => exact h
theorem bind_inv {α β : Type} {r : Res α} {f : α → Env → Res β} {b : β} {ρ : Env} (h : r.bind f = .ok b ρ) : ∃ a ρ', r = .ok a ρ' ∧ f a ρ' = .ok b ρ := by
  cases r with
  | ok a ρ' => exact ⟨a, ρ', rfl, h⟩
  | exc x ρ' => cases h
  | stuck => cases h
theorem cmp_bool {ρ ρ' : Env} {o : COp} {z : EV} (h : evalE md modes call (.cmp o ma mb) ρ = .ok z ρ') : ∃ k, z = .val (.bool k) := by
  obtain ⟨x, ρ1, _, h⟩ := bind_inv h
  obtain ⟨y, ρ2, _, h⟩ := bind_inv h
  obtain ⟨_, _, h⟩ := on_inv h
  obtain ⟨_, _, h⟩ := on_inv h
  obtain ⟨k, _, h⟩ := on_inv h
  cases h
  exact ⟨k, rfl⟩
theorem chain_bool {ρ ρ' : Env} {o o' : COp} {z : EV} (h : evalE md modes call (.chain o o' ma mb mc) ρ = .ok z ρ') : ∃ k, z = .val (.bool k) := by
  obtain ⟨x, ρ1, _, h⟩ := bind_inv h
  obtain ⟨y, ρ2, _, h⟩ := bind_inv h
  obtain ⟨_, _, h⟩ := on_inv h
  obtain ⟨_, _, h⟩ := on_inv h
  obtain ⟨k, _, h⟩ := on_inv h
  cases k with
  | false => cases h; exact ⟨_, rfl⟩
  | true =>
    obtain ⟨w, ρ4, _, h⟩ := bind_inv (show (evalE md modes call mc ρ2).bind _ = _ from h)
    obtain ⟨_, _, h⟩ := on_inv h
    obtain ⟨_, _, h⟩ := on_inv h
    obtain ⟨k, _, h⟩ := on_inv h
    cases h
    exact ⟨k, rfl⟩
/-- a test of what is a bool -/
theorem tE_of_test {m : ME} {σ : St} {H : Hp} {K : PySem.W.Frag} {Q : Bool → Hp → Prop} (hb : ∀ ρ ρ' z, evalE md modes call m ρ = .ok z ρ' → ∃ k, z = .val (.bool k)) (w : tTr K md (evalT md modes call m) σ H Q) :
    tE K md (evalE md modes call m) σ H fun x H' => ∃ k, x = .bl k ∧ Q k H' := by
  obtain ⟨G, ρ, R, w⟩ := w
  refine ⟨G, ρ, R, w.bind.mono_eq fun z ρ' e w v H' fr sb R' rep => ?_⟩
  obtain ⟨k, rfl⟩ := hb _ _ _ e
  have rep : Rep K H' v (.bool k) := rep
  cases rep
  exact ⟨k, rfl, w H' fr sb R'⟩
theorem td_cmp (o : COp) (hu : X.A.units + 65 < cLine) (ha : PD md modes call X a ma) (hb : PD md modes call X b mb) (hm : behindInMarks (cop o) b = false) : TD md modes call X (.Compare a [cop o] [b] pos) (.cmp o ma mb) := by
  refine PT.imp (pt_cmpR (op_cmp hu o) (PE.toR ha) (PE.toR hb) hm) fun σ H Q w => ?_
  exact two (tE_of_test (fun _ _ _ => cmp_bool) w) fun G ρ x y v u H2 R r1 r2 w => cmp_of R r1 r2 w fun k w => (RNew.of R w).here (.bl _)
/-- a < b < c -/
theorem chain_red {o o' : COp} {σ : St} {H : Hp} {Q : VK} {K : PySem.W.Frag} (w : tE K md (evalE md modes call (.chain o o' ma mb mc)) σ H Q) :
    tChain (rCmpD K o) (rCmpD K o') (tR K md (evalE md modes call ma)) (tR K md (evalE md modes call mb)) (tR K md (evalE md modes call mc)) σ H Q := by
  obtain ⟨G, ρ, R, w⟩ := w
  refine ⟨G, ρ, R, w.bind.mono fun x ρ1 w1 v H1 fr1 sb1 R1 rep1 => ⟨G, ρ1, R1, w1.bind.mono fun y ρ2 w2 u H2 fr2 sb2 R2 rep2 => ?_⟩⟩
  have fr : Fr σ ρ H H2 := fr1.trans sb1 fr2
  have sb : Sub ρ ρ2 := sb1.trans sb2
  refine cmp_of R2 (rep1.mono (R1.ext fr2)) rep2 w2 fun k w => ⟨k, rfl, ?_⟩
  cases k with
  | false =>
    rw [if_neg Bool.false_ne_true]
    exact (RNew.of R2 (Aft.back fr sb (show Aft G K md σ ρ H Q (.val (.bool false)) ρ2 from w))).here (.bl _)
  | true =>
    rw [if_pos rfl]
    have w : Want ((evalE md modes call mc ρ2).bind _) _ := w
    refine ⟨G, ρ2, R2, w.bind.mono fun z ρ3 w3 t H3 fr3 sb3 R3 rep3 => ?_⟩
    exact cmp_of R3 (rep2.mono (R2.ext fr3)) rep3 w3 fun k w => (RNew.of R3 (Aft.back (fr.trans sb fr3) (sb.trans sb3) (show Aft G K md σ ρ H Q (.val (.bool k)) ρ3 from w))).here (.bl _)
theorem pd_chain (o o' : COp) (hu : X.A.units + 65 < cLine) (ha : PD md modes call X a ma) (hb : PD md modes call X b mb) (hc : PD md modes call X c mc) (hm : lastMarks [cop o, cop o'] [b, c] = false) :
    PD md modes call X (.Compare a [cop o, cop o'] [b, c] pos) (.chain o o' ma mb mc) :=
  PE.imp (pe_chain (op_cmp hu o) (op_cmp hu o') (PE.toR ha) (PE.toR hb) (PE.toR hc) hm) fun σ H Q w => chain_red w
theorem td_chain (o o' : COp) (hu : X.A.units + 65 < cLine) (ha : PD md modes call X a ma) (hb : PD md modes call X b mb) (hc : PD md modes call X c mc) (hm : lastMarks [cop o, cop o'] [b, c] = false) :
    TD md modes call X (.Compare a [cop o, cop o'] [b, c] pos) (.chain o o' ma mb mc) :=
  PT.imp (pt_chain (op_cmp hu o) (op_cmp hu o') (PE.toR ha) (PE.toR hb) (PE.toR hc) hm) fun σ H Q w => chain_red (tE_of_test (fun _ _ _ => chain_bool) w)

/-! ### truth -/
theorem tru_of {G : Gh} {K : PySem.W.Frag} {σ : St} {ρ : Env} {H : Hp} {x : EV} {v : V} {α : Type} {F : Bool → Res α} {P : α → Env → Prop} (R : RS G K md σ ρ H) (r1 : RepRV K σ H v (toR x))
    (w : Want (on ((deref ρ (toR x)).bind truthy) F) P) : ∃ k, TruV K v H k ∧ Want (F k) P := by
  obtain ⟨k, e, w⟩ := Want.on w
  obtain ⟨d, e1, e2⟩ := Option.bind_eq_some_iff.mp e
  exact ⟨k, (r1.rd R e1).tru e2, w⟩
/-- any expression as a test -/
theorem td_truth (ha : PD md modes call X a ma) (he : ∀ whole, isTrue a X.env whole = (do let v ← whole; standAt a.pos; holding [v] (PySem.truthy v))) : TD md modes call X a ma := by
  refine PT.imp (pt_truth (PE.toR ha) he) fun σ H Q w => ?_
  obtain ⟨G, ρ, R, w⟩ := w
  refine ⟨G, ρ, R, w.bind.mono fun x ρ1 w1 v H1 fr1 sb1 R1 rep1 => ?_⟩
  obtain ⟨k, hk, w2⟩ := tru_of R1 rep1 w1
  exact ⟨k, hk, w2 H1 fr1 sb1 R1⟩
theorem td_not (ha : TD md modes call X a ma) : TD md modes call X (.UnaryOp .Not a pos) (.not ma) := by
  refine PT.imp (pt_not ha) fun σ H Q w => ?_
  obtain ⟨G, ρ, R, w⟩ := w
  refine ⟨G, ρ, R, ?_⟩
  have w : Want ((((evalE md modes call ma) ρ).bind _).bind _) _ := w
  show Want ((evalE md modes call ma ρ).bind _) _
  cases e : evalE md modes call ma ρ with
  | exc x ρ => rw [e] at w; exact False.elim w
  | stuck => rw [e] at w; exact False.elim w
  | ok x ρ1 =>
    rw [e] at w
    simp only [Res.bind_ok] at w ⊢
    cases e2 : (deref ρ1 (toR x)).bind truthy with
    | none => rw [e2] at w; exact False.elim w
    | some k => rw [e2] at w; exact w
theorem td_and {rest : List Expr} (ha : TD md modes call X a ma) (hb : PW X (.BoolOp .And (b :: rest) pos) (tTr X.K md (evalT md modes call mb))) : PW X (.BoolOp .And (a :: b :: rest) pos) (tTr X.K md (evalT md modes call (.and ma mb))) := by
  refine ⟨fun whole pins s σ H Q I w => (pw_and ha hb).run whole pins s σ H Q I ?_⟩
  obtain ⟨G, ρ, R, w⟩ := w
  refine ⟨G, ρ, R, ?_⟩
  have w : Want ((((evalE md modes call ma) ρ).bind _).bind _) _ := w
  show Want ((evalE md modes call ma ρ).bind _) _
  cases e : evalE md modes call ma ρ with
  | exc x ρ => rw [e] at w; exact False.elim w
  | stuck => rw [e] at w; exact False.elim w
  | ok x ρ1 =>
    rw [e] at w
    simp only [Res.bind_ok] at w ⊢
    cases e2 : (deref ρ1 (toR x)).bind truthy with
    | none => rw [e2] at w; exact False.elim w
    | some k =>
      rw [e2] at w
      cases k with
      | false =>
        have w : Want (on ((deref ρ1 (toR x)).bind truthy) fun b => Res.ok b ρ1) _ := w
        rw [e2] at w
        intro H' fr sb R'
        exact iteF (w H' fr sb R')
      | true =>
        intro H' fr sb R'
        refine iteT ⟨G, ρ1, R', Want.mono (r := evalT md modes call mb ρ1) w fun k ρ' p H2 fr2 sb2 R2 => p H2 (fr.trans sb fr2) (sb.trans sb2) R2⟩
theorem td_or {rest : List Expr} (ha : TD md modes call X a ma) (hb : PW X (.BoolOp .Or (b :: rest) pos) (tTr X.K md (evalT md modes call mb))) : PW X (.BoolOp .Or (a :: b :: rest) pos) (tTr X.K md (evalT md modes call (.or ma mb))) := by
  refine ⟨fun whole pins s σ H Q I w => (pw_or ha hb).run whole pins s σ H Q I ?_⟩
  obtain ⟨G, ρ, R, w⟩ := w
  refine ⟨G, ρ, R, ?_⟩
  have w : Want ((((evalE md modes call ma) ρ).bind _).bind _) _ := w
  show Want ((evalE md modes call ma ρ).bind _) _
  cases e : evalE md modes call ma ρ with
  | exc x ρ => rw [e] at w; exact False.elim w
  | stuck => rw [e] at w; exact False.elim w
  | ok x ρ1 =>
    rw [e] at w
    simp only [Res.bind_ok] at w ⊢
    cases e2 : (deref ρ1 (toR x)).bind truthy with
    | none => rw [e2] at w; exact False.elim w
    | some k =>
      rw [e2] at w
      cases k with
      | true =>
        have w : Want (on ((deref ρ1 (toR x)).bind truthy) fun b => Res.ok b ρ1) _ := w
        rw [e2] at w
        intro H' fr sb R'
        exact iteT (w H' fr sb R')
      | false =>
        intro H' fr sb R'
        refine iteF ⟨G, ρ1, R', Want.mono (r := evalT md modes call mb ρ1) w fun k ρ' p H2 fr2 sb2 R2 => p H2 (fr.trans sb fr2) (sb.trans sb2) R2⟩
/-- .. as values -/
theorem pd_one {op} (ha : PD md modes call X a ma) : PD md modes call X (.BoolOp op [a] pos) ma := pe_one ha
theorem RepEV.rd {G : Gh} {K : PySem.W.Frag} {σ : St} {ρ : Env} {H H' : Hp} {v : V} {x : EV} {d : PyData} (R : RS G K md σ ρ H') (h : RepEV K σ H H' v x) (e : deref ρ (toR x) = some d) : RdD K H' v d := by
  cases x with
  | val d' => cases e; exact Rep.rd h
  | fr d' => cases e; obtain ⟨_, _, _, r⟩ := h; exact r.rd
  | al i => exact RepRV.rd (r := .al i) R h e
theorem truE_of {G : Gh} {K : PySem.W.Frag} {σ : St} {ρ : Env} {H0 H : Hp} {x : EV} {v : V} {α : Type} {F : Bool → Res α} {P : α → Env → Prop} (R : RS G K md σ ρ H) (r1 : RepEV K σ H0 H v x)
    (w : Want (on ((deref ρ (toR x)).bind truthy) F) P) : ∃ k, TruV K v H k ∧ Want (F k) P := by
  obtain ⟨k, e, w⟩ := Want.on w
  obtain ⟨d, e1, e2⟩ := Option.bind_eq_some_iff.mp e
  exact ⟨k, (r1.rd R e1).tru e2, w⟩
theorem pd_and {rest : List Expr} (ha : PD md modes call X a ma) (hb : PD md modes call X (.BoolOp .And (b :: rest) pos) mb) : PD md modes call X (.BoolOp .And (a :: b :: rest) pos) (.and ma mb) := by
  refine PE.imp (pe_andT ha hb) fun σ H Q w => ?_
  obtain ⟨G, ρ, R, w⟩ := w
  refine ⟨G, ρ, R, w.bind.mono fun x ρ1 w1 v H1 fr1 sb1 R1 rep1 => ?_⟩
  obtain ⟨k, hk, w2⟩ := truE_of R1 rep1 w1
  refine ⟨k, hk, ?_⟩
  cases k with
  | true => exact iteT ⟨G, ρ1, R1, Want.mono (r := evalE md modes call mb ρ1) w2 fun z ρ' p => Aft.back fr1 sb1 p⟩
  | false => exact iteF ((show Aft G X.K md σ ρ H Q x ρ1 from w2) v H1 fr1 sb1 R1 rep1)
theorem pd_or {rest : List Expr} (ha : PD md modes call X a ma) (hb : PD md modes call X (.BoolOp .Or (b :: rest) pos) mb) : PD md modes call X (.BoolOp .Or (a :: b :: rest) pos) (.or ma mb) := by
  refine PE.imp (pe_orT ha hb) fun σ H Q w => ?_
  obtain ⟨G, ρ, R, w⟩ := w
  refine ⟨G, ρ, R, w.bind.mono fun x ρ1 w1 v H1 fr1 sb1 R1 rep1 => ?_⟩
  obtain ⟨k, hk, w2⟩ := truE_of R1 rep1 w1
  refine ⟨k, hk, ?_⟩
  cases k with
  | false => exact iteF ⟨G, ρ1, R1, Want.mono (r := evalE md modes call mb ρ1) w2 fun z ρ' p => Aft.back fr1 sb1 p⟩
  | true => exact iteT ((show Aft G X.K md σ ρ H Q x ρ1 from w2) v H1 fr1 sb1 R1 rep1)
theorem pd_not (ha : PD md modes call X a ma) : PD md modes call X (.UnaryOp .Not a pos) (.not ma) := by
  refine PE.imp (pe_notT (PE.toR ha)) fun σ H Q w => ?_
  refine one (r := fun x H1 Q => ∃ k, TruV X.K x H1 k ∧ Q (.bl (!k)) H1) w fun G ρ x v H1 R r1 w => ?_
  obtain ⟨k, hk, w2⟩ := tru_of R r1 w
  exact ⟨k, hk, (RNew.of R w2).here (.bl _)⟩
theorem pd_ite (hc : TD md modes call X c mc) (ha : PD md modes call X a ma) (hb : PD md modes call X b mb) : PD md modes call X (.IfExp c a b pos) (.ite mc ma mb) := by
  refine PE.imp (pe_ifExp hc ha hb) fun σ H Q w => ?_
  obtain ⟨G, ρ, R, w⟩ := w
  refine ⟨G, ρ, R, ?_⟩
  have w : Want ((evalE md modes call mc ρ).bind _) _ := w
  show Want ((evalE md modes call mc ρ).bind _) _
  cases e : evalE md modes call mc ρ with
  | exc x ρ => rw [e] at w; exact False.elim w
  | stuck => rw [e] at w; exact False.elim w
  | ok x ρ1 =>
    rw [e] at w
    simp only [Res.bind_ok] at w ⊢
    cases e2 : (deref ρ1 (toR x)).bind truthy with
    | none => rw [e2] at w; exact False.elim w
    | some k =>
      rw [e2] at w
      cases k with
      | true => exact fun H' fr sb R' => iteT ⟨G, ρ1, R', Want.mono (r := evalE md modes call ma ρ1) w fun z ρ' p => Aft.back fr sb p⟩
      | false => exact fun H' fr sb R' => iteF ⟨G, ρ1, R', Want.mono (r := evalE md modes call mb ρ1) w fun z ρ' p => Aft.back fr sb p⟩

/-! ### items and slices -/
theorem pd_idx (ha : PD md modes call X a ma) (hb : PD md modes call X b mb) (hs : PlainIx b) : PD md modes call X (.Subscript a b pos) (.idx ma mb) := by
  refine PE.imp (pe_ix ix_data (PE.toR ha) (PE.toR hb) hs) fun σ H Q w => two w fun G ρ x y v u H2 R r1 r2 w => ?_
  obtain ⟨d1, e1, w⟩ := Want.on w
  obtain ⟨d2, e2, w⟩ := Want.on w
  obtain ⟨r, e3, p⟩ := Want.on w
  exact ⟨d1, d2, r, r1.rd R e1, r2.rd R e2, e3, RNew.of R p⟩
/-- a part of a slice -/
def PP (md : List Bool) (modes : Nat → List Bool) (call : Calls) (X : Cx) (o : Option Expr) (m : MP) : Prop := PO X o fun σ H Q => ∃ G ρ, RS G X.K md σ ρ H ∧ Want (evalP md modes call m ρ) fun l ρ' => ∀ H', Fr σ ρ H H' → Sub ρ ρ' → RS G X.K md σ ρ' H' → Q l H'
theorem PO.imp {X : Cx} {e : Option Expr} {t t' : TO} (h : PO X e t) (g : ∀ σ H Q, t' σ H Q → t σ H Q) : PO X e t' :=
  ⟨fun pins s σ H Q I w => h.run pins s σ H Q I (g σ H Q w)⟩
theorem pp_none : PP md modes call X none .non := PO.imp po_none fun σ H Q ⟨G, ρ, R, w⟩ => w H Fr.refl (Sub.refl ρ) R
theorem pp_some (ha : PD md modes call X a ma) : PP md modes call X (some a) (.ex ma) := by
  refine PO.imp (po_some (PE.toV ha)) fun σ H Q ⟨G, ρ, R, w⟩ => ⟨G, ρ, R, Want.mono (r := (evalE md modes call ma ρ).bind settle) w.bind fun d ρ' q v H' fr sb R' rep => ?_⟩
  cases d with
  | int i =>
    cases rep
    exact ⟨i, rfl, (show ∀ H', Fr σ ρ H H' → Sub ρ ρ' → RS G X.K md σ ρ' H' → Q (some i) H' from q) H' fr sb R'⟩
  | _ => exact False.elim q
variable {lo hi : Option Expr} {ml mh : MP}
theorem pd_sl {p2 : Pos} (ha : PD md modes call X a ma) (hl : PP md modes call X lo ml) (hh : PP md modes call X hi mh) : PD md modes call X (.Subscript a (.Slice lo hi none p2) pos) (.sl ma ml mh) := by
  refine PE.imp (pe_slice sl_data (PE.toR ha) hl hh) fun σ H Q ⟨G, ρ, R, w⟩ => ?_
  refine ⟨G, ρ, R, w.bind.mono fun x ρ1 w v H1 fr1 sb1 R1 rep1 => ⟨G, ρ1, R1, w.bind.mono fun l ρ2 w H2 fr2 sb2 R2 => ⟨G, ρ2, R2, w.bind.mono fun h ρ3 w H3 fr3 sb3 R3 => ?_⟩⟩⟩
  obtain ⟨d, e, w⟩ := Want.on w
  obtain ⟨r, e2, p⟩ := Want.ofO w
  exact ⟨d, r, ((rep1.mono (R1.ext fr2)).mono (R2.ext fr3)).rd R3 e, e2, RNew.of R3 (Aft.back ((fr1.trans sb1 fr2).trans (sb1.trans sb2) fr3) ((sb1.trans sb2).trans sb3) p)⟩
/-- t[::-1] -/
def rRev (K : PySem.W.Frag) : V → Hp → VK → Prop := fun x H Q => ∃ d r, RdD K H x d ∧ revD d = some r ∧ RNew K H Q r
theorem pe_revT {e : Expr} {te : TE} {k : Nat} {p1 p2 p3 pos : Pos} (he : PE X e te) : PE X (.Subscript e (.Slice none none (some (.UnaryOp .USub (.Constant (.int 1) k p1) p2)) p3) pos) (tUn (rRev X.K) te) := by
  refine ⟨fun pins s σ H Q I h => ?_⟩
  refine Subscript_ (thn (he.run pins s σ H _ I h) fun v s1 ⟨x, H1, I1, r1, q1⟩ => ?_)
  obtain ⟨d, r, hd, er, q⟩ := q1
  have hst : PO X (some (.UnaryOp .USub (.Constant (.int 1) k p1) p2)) (tPart (tUn (rU fun i => .int (-i)) (tC (.int 1)))) := po_some (pe_un un_neg pe_int)
  refine wpAny_Slice (thn (po_none.run pins s1 σ H1 (fun o H2 => o = none ∧ H2 = H1) I1 ⟨rfl, rfl⟩) fun vl s2 ⟨l, H2, I2, pl, el, e2⟩ => ?_)
  subst el e2
  refine thn (po_none.run pins s2 σ H2 (fun o H3 => o = none ∧ H3 = H2) I2 ⟨rfl, rfl⟩) fun vu s3 ⟨u, H3, I3, pu, eu, e3⟩ => ?_
  subst eu e3
  refine thn (hst.run pins s3 σ H3 (fun o H4 => o = some (-1) ∧ H4 = H3) I3 ⟨1, rfl, -1, rfl, rfl, rfl⟩) fun vs s4 ⟨o, H4, I4, ps, eo, e4⟩ => ?_
  subst eo e4
  have I5 : Inv X pins σ H4 { s4 with heap := s4.heap.push { cls := .type "slice", data := .fields #[vl, vu, vs] } } := I4.kept (t' := s4.toks) fun b ob q => Heap.get?_push_of_some _ q
  cases d with
  | list ds =>
    cases er
    obtain ⟨a, xs, rfl, hx, rx⟩ := hd
    cases r1
    obtain ⟨its, r, ht, hz⟩ := I5.list hx
    have hlen := r.length
    show wpAny (model X.prog X.w) X.A (subscriptTail e (.Slice none none (some (.UnaryOp .USub (.Constant (.int 1) k p1) p2)) p3) (.ref a) (.ref s4.heap.objs.size)) (EP X pins σ Q) X.xe { s4 with heap := s4.heap.push { cls := .type "slice", data := .fields #[vl, vu, vs] } }
    refine tail_any (ops := [.ref a, .ref s4.heap.objs.size]) ht.isList.typeIs (PySem.slot_list_getitem.lookup) ?_ (by with_unfolding_all rfl)
    refine wpAny_getItem_list_slice ht.isList (Heap.IsSliceOf.new _ vl vu vs) pl pu ps (by decide) ?_ (by rw [List.size_toArray]; omega)
    rw [PySem.W.krv_pick]
    refine ⟨.ref _, _, I5.laid (t' := s4.toks) (o := .lst xs.reverse) (fun b ob q => Heap.get?_push_of_some _ q) (Nat.le_refl _) ?_, rfl, q.list rx.reverse _ (I5.hok.fresh (Nat.le_refl _))⟩
    exact ⟨by rw [List.length_reverse]; exact hz, _, 0, r.reverse, Heap.get?_push_size _ rfl⟩
  | tuple ds =>
    cases er
    obtain ⟨a, xs, rfl, hx, rx⟩ := hd
    cases r1
    obtain ⟨its, r, ht, hz⟩ := I5.tuple hx
    have hlen := r.length
    show wpAny (model X.prog X.w) X.A (subscriptTail e (.Slice none none (some (.UnaryOp .USub (.Constant (.int 1) k p1) p2)) p3) (.ref a) (.ref s4.heap.objs.size)) (EP X pins σ Q) X.xe { s4 with heap := s4.heap.push { cls := .type "slice", data := .fields #[vl, vu, vs] } }
    refine tail_any (ops := [.ref a, .ref s4.heap.objs.size]) ht.typeIs (PyProof.Rows.slot_tuple_getitem.lookup) ?_ (by with_unfolding_all rfl)
    cases pl
    cases pu
    cases ps
    refine getItem_tuple_rev ht (Heap.IsSliceOf.new _ _ _ _) ?_ (by rw [List.size_toArray]; omega)
    refine ⟨.ref _, _, I5.laid (t' := s4.toks) (o := .tup xs.reverse) (fun b ob q => Heap.get?_push_of_some _ q) (Nat.le_refl _) ?_, rfl, q.tuple rx.reverse _ (I5.hok.fresh (Nat.le_refl _))⟩
    exact ⟨by rw [List.length_reverse]; exact hz, _, r.reverse, ⟨_, Heap.get?_push_size _ rfl, rfl, _, rfl⟩⟩
  | _ => cases er
end
end Dn
/-! Den6: displays, isinstance, built-ins -/
namespace Dn
open PySem PySem.Spec PyProof.Rows L2

section
variable {md : List Bool} {modes : Nat → List Bool} {call : Calls} {X : Cx} {a b c e : Expr} {es : List Expr} {ma mb mc m : ME} {ms : List ME} {pos : Pos}
theorem pd_rev {k : Nat} {p1 p2 p3 : Pos} (ha : PD md modes call X a ma) : PD md modes call X (.Subscript a (.Slice none none (some (.UnaryOp .USub (.Constant (.int 1) k p1) p2)) p3) pos) (.rev ma) := by
  refine PE.imp (pe_revT (PE.toR ha)) fun σ H Q w => one w fun G ρ x v H1 R r1 w => ?_
  obtain ⟨d, e, w⟩ := Want.on w
  obtain ⟨r, e2, p⟩ := Want.ofO w
  exact ⟨d, r, r1.rd R e, e2, RNew.of R p⟩
/-! ### displays -/
def VD (md : List Bool) (modes : Nat → List Bool) (call : Calls) (X : Cx) (es : List Expr) (ms : List ME) : Prop := PA X es (tVs X.K md (evalVs md modes call ms))
theorem vd_nil : VD md modes call X [] [] := PA.imp pa_nil fun σ H Q ⟨G, ρ, R, w⟩ => w [] H Fr.refl (Sub.refl ρ) R .nil
theorem vd_cons (ha : PD md modes call X e m) (hr : VD md modes call X es ms) (hs : starEach (e :: es) X.env = (false, eval e X.env) :: starEach es X.env := by rfl) : VD md modes call X (e :: es) (m :: ms) := by
  refine PA.imp (pa_cons (PE.toV ha) hr hs) fun σ H Q ⟨G, ρ, R, w⟩ => ?_
  refine ⟨G, ρ, R, w.bind.mono fun d ρ1 w v H1 fr1 sb1 R1 rep1 => ⟨G, ρ1, R1, w.bind.mono fun ds ρ2 w vs H2 fr2 sb2 R2 rep2 => ?_⟩⟩
  have w : ∀ vs H', Fr σ ρ H H' → Sub ρ ρ2 → RS G X.K md σ ρ2 H' → Reps X.K H' vs (d :: ds) → Q vs H' := w
  exact w _ _ (fr1.trans sb1 fr2) (sb1.trans sb2) R2 (.cons (rep1.mono (R1.ext fr2)) rep2)
theorem pd_tup {x1 : Nat} (h : VD md modes call X es ms) : PD md modes call X (.Tuple es x1 pos) (.tup ms) := by
  refine PE.imp (pe_tup h) fun σ H Q ⟨G, ρ, R, w⟩ => ⟨G, ρ, R, w.bind.mono fun ds ρ1 w vs H1 fr1 sb1 R1 rep1 => ?_⟩
  by_cases hz : ds.length ≤ szl
  · rw [if_pos hz] at w
    refine ⟨by rw [rep1.length, ← szl_eq]; exact hz, ?_⟩
    exact (RNew.of R1 (Aft.back fr1 sb1 (show Aft G X.K md σ ρ H Q (.val (.tuple ds)) ρ1 from w))).tuple rep1
  · rw [if_neg hz] at w
    exact False.elim w
theorem pd_lst (h : VD md modes call X es ms) : PD md modes call X (.List es pos) (.lst ms) := by
  refine PE.imp (pe_lst h) fun σ H Q ⟨G, ρ, R, w⟩ => ⟨G, ρ, R, w.bind.mono fun ds ρ1 w vs H1 fr1 sb1 R1 rep1 => ?_⟩
  by_cases hz : ds.length ≤ szl
  · rw [if_pos hz] at w
    refine ⟨by rw [rep1.length, ← szl_eq]; exact hz, ?_⟩
    exact (RNew.of R1 (Aft.back fr1 sb1 (show Aft G X.K md σ ρ H Q (.fr (.list ds)) ρ1 from w))).list rep1
  · rw [if_neg hz] at w
    exact False.elim w

/-! ### isinstance -/
def tyN : PyData → String
  | .none => "NoneType" | .bool _ => "bool" | .int _ => "int" | .str _ => "str" | .list _ => "list" | .tuple _ => "tuple" | .dict _ => "dict"
def tyS : Ty → String
  | .int => "int" | .str => "str" | .bool => "bool" | .tuple => "tuple" | .list => "list" | .dict => "dict"
theorem kit_all (d : PyData) (T : Ty) : kitB (tyN d) (tyS T) = some (isTy d T) := by
  cases d <;> cases T <;> (show kitB _ _ = some _; simp only [tyN, tyS, isTy]; decide +kernel)
theorem RdD.ty {K : PySem.W.Frag} {H : Hp} {v : V} {d : PyData} (h : RdD K H v d) : TyX K H v (.type (tyN d)) := by
  cases d with
  | none => cases (show v = V.non from h); exact .base .non
  | bool b => cases (show v = V.bl b from h); exact .base (.bl b)
  | int i => cases (show v = V.int i from h); exact .base (.int i)
  | str x => cases (show v = V.str x from h); exact .base (.str x)
  | list l =>
    obtain ⟨a, xs, rfl, h1, _⟩ := h
    rcases h1 with (h1 | ⟨o, h1⟩) | ⟨o, its, n, h1, h2, _⟩
    · exact .base (.lst h1)
    · exact .base (.frz h1)
    · exact .kList h1 h2
  | tuple l =>
    obtain ⟨a, xs, rfl, h1, _⟩ := h
    rcases h1 with (h1 | ⟨o, h1⟩) | ⟨o, its, n, h1, h2, _⟩
    · exact .base (.tup h1)
    · exact .fTuple h1
    · exact .kTuple h1 h2
  | dict l => exact False.elim h
theorem kitAny_all (K : PySem.W.Frag) (d : PyData) : ∀ ts : List Ty, PySem.W.kitAny K (.type (tyN d)) (ts.map fun T => .type (tyS T)) = some (ts.any (isTy d))
  | [] => rfl
  | T :: ts => by
    have ih := kitAny_all K d ts
    refine kitAny_cons (kit_ty (kit_all d T)) (fun z => ?_) (fun z => ?_)
    · rw [List.any_cons, z, Bool.false_or]; exact ih
    · rw [List.any_cons, z, Bool.true_or]
def TYs (X : Cx) (es : List Expr) (ts : List Ty) : Prop := PA X es (fun _ H Q => Q (ts.map fun T => V.ty (tyS T)) H)
theorem tys_nil : TYs X [] [] := PA.imp pa_nil fun σ H Q w => w
theorem tys_cons {x : Str} {p : Pos} {ts : List Ty} (T : Ty) (hg : Gl X x) (hm : X.mg x = none) (hv : bootBuiltins x = some (.type (tyS T))) (h : TYs X es ts) (hn : x ≠ "__name__" := by decide) (hd : (x == ("__debug__" : Str)) = false := by decide)
    (hs : starEach (.Name x p :: es) X.env = (false, eval (.Name x p) X.env) :: starEach es X.env := by rfl) : TYs X (.Name x p :: es) (T :: ts) :=
  PA.imp (pa_cons (pe_bltn (v := .ty (tyS T)) hg hm hv rfl hn hd) h hs) fun σ H Q w => w
theorem pd_isi {x : Str} {p q : Pos} (T : Ty) (hi : Gl X "isinstance") (hmi : X.mg "isinstance" = none) (ha : PD md modes call X a ma) (hg : Gl X x) (hm : X.mg x = none) (hv : bootBuiltins x = some (.type (tyS T))) (hn : x ≠ "__name__" := by decide) (hd : (x == ("__debug__" : Str)) = false := by decide)
    (hs : starEach [a, .Name x q] X.env = (false, eval a X.env) :: starEach [.Name x q] X.env := by rfl) (hpl : (backTo pos (starEach [.Name x q] X.env)).any (·.1) = false := by rfl) :
    PD md modes call X (.Call (.Name "isinstance" p) [a, .Name x q] [] pos) (.isi ma [T]) := by
  refine PE.imp (pe_callB call_isi hi hmi (by decide +kernel) (pa_cons (PE.toR ha) (pa_cons (pe_bltn (v := .ty (tyS T)) hg hm hv rfl hn hd) pa_nil (by rfl)) hs) (by decide) (by decide) hs hpl) fun σ H Q ⟨G, ρ, R, w⟩ => ?_
  refine ⟨G, ρ, R, w.bind.mono fun x ρ1 w v H1 fr1 sb1 R1 rep1 => ?_⟩
  obtain ⟨d, e, w⟩ := Want.on w
  have hw : [T].any (isTy d) = isTy d T := by simp
  rw [hw] at w
  exact ⟨v, _, _, _, _, rfl, .ty _, (rep1.rd R1 e).ty, kit_ty (kit_all d T), (RNew.of R1 (Aft.back fr1 sb1 (show Aft G X.K md σ ρ H Q (.val (.bool (isTy d T))) ρ1 from w))).here (.bl _)⟩
theorem paired_cls : ∀ ts : List Ty, Paired ClsV (ts.map fun T => V.ty (tyS T)) (ts.map fun T => Value.type (tyS T))
  | [] => .nil
  | T :: ts => .cons (.ty _) (paired_cls ts)
theorem pd_isiT {p q : Pos} {k : Nat} (ts : List Ty) (hi : Gl X "isinstance") (hmi : X.mg "isinstance" = none) (ha : PD md modes call X a ma) (ht : TYs X es ts) (hl : ts.length ≤ szl := by decide)
    (hs : starEach [a, .Tuple es k q] X.env = (false, eval a X.env) :: starEach [.Tuple es k q] X.env := by rfl) (hpl : (backTo pos (starEach [.Tuple es k q] X.env)).any (·.1) = false := by rfl) :
    PD md modes call X (.Call (.Name "isinstance" p) [a, .Tuple es k q] [] pos) (.isi ma ts) := by
  refine PE.imp (pe_callB call_isiT hi hmi (by decide +kernel) (pa_cons (PE.toR ha) (pa_cons (pe_tup ht) pa_nil (by rfl)) hs) (by decide) (by decide) hs hpl) fun σ H Q ⟨G, ρ, R, w⟩ => ?_
  refine ⟨G, ρ, R, w.bind.mono fun x ρ1 w v H1 fr1 sb1 R1 rep1 => ⟨by rw [List.length_map, ← szl_eq]; exact hl, fun t ht => ?_⟩⟩
  obtain ⟨d, e, w⟩ := Want.on w
  have ex := Ex.new (o := .tup (ts.map fun T => V.ty (tyS T))) ht
  have R2 := R1.grow ex
  refine ⟨v, t, _, _, _, _, rfl, upd_same, paired_cls ts, ((rep1.mono ex.ext).rd R2 e).ty, kitAny_all X.K d ts, ?_⟩
  exact (RNew.of R2 (Aft.back (Fr.trans fr1 sb1 (Fr.grow ex)) (sb1.trans (Sub.refl _)) (show Aft G X.K md σ ρ H Q (.val (.bool (ts.any (isTy d)))) ρ1 from w))).here (.bl _)

/-! ### built-ins -/
abbrev RepRVs (K : PySem.W.Frag) (σ : St) (H : Hp) : List V → List RV → Prop := Paired (RepRV K σ H)
def RD (md : List Bool) (modes : Nat → List Bool) (call : Calls) (X : Cx) (es : List Expr) (ms : List ME) : Prop := PA X es fun σ H Q => ∃ G ρ, RS G X.K md σ ρ H ∧ Want (evalRs md modes call ms ρ) fun rs ρ' => ∀ vs H', Fr σ ρ H H' → Sub ρ ρ' → RS G X.K md σ ρ' H' → RepRVs X.K σ H' vs rs → Q vs H'
theorem rd_nil : RD md modes call X [] [] := PA.imp pa_nil fun σ H Q ⟨G, ρ, R, w⟩ => w [] H Fr.refl (Sub.refl ρ) R .nil
theorem rd_cons (ha : PD md modes call X e m) (hr : RD md modes call X es ms) (hs : starEach (e :: es) X.env = (false, eval e X.env) :: starEach es X.env := by rfl) : RD md modes call X (e :: es) (m :: ms) := by
  refine PA.imp (pa_cons (PE.toR ha) hr hs) fun σ H Q ⟨G, ρ, R, w⟩ => ?_
  refine ⟨G, ρ, R, w.bind.mono fun d ρ1 w v H1 fr1 sb1 R1 rep1 => ⟨G, ρ1, R1, w.bind.mono fun ds ρ2 w vs H2 fr2 sb2 R2 rep2 => ?_⟩⟩
  have w : ∀ vs H', Fr σ ρ H H' → Sub ρ ρ2 → RS G X.K md σ ρ2 H' → RepRVs X.K σ H' vs (toR d :: ds) → Q vs H' := w
  exact w _ _ (fr1.trans sb1 fr2) (sb1.trans sb2) R2 (.cons (rep1.mono (R1.ext fr2)) rep2)
theorem rds_of {G : Gh} {K : PySem.W.Frag} {σ : St} {ρ : Env} {H : Hp} (R : RS G K md σ ρ H) : ∀ {vs : List V} {rs : List RV} {ds : List PyData}, RepRVs K σ H vs rs → rs.mapM (deref ρ) = some ds → RdDs K H vs ds
  | _, _, _, .nil, e => by cases e; exact .nil
  | _, _, _, .cons (b := r) h t, e => by
    rw [List.mapM_cons] at e
    obtain ⟨d, e1, e⟩ := Option.bind_eq_some_iff.mp e
    obtain ⟨ds, e2, e⟩ := Option.bind_eq_some_iff.mp e
    cases e
    exact .cons (RepRV.rd R h e1) (rds_of R t e2)
theorem blt_red {bl : Blt} {σ : St} {H : Hp} {Q : VK} (w : tE X.K md (evalE md modes call (.blt bl ms)) σ H Q) :
    (∃ G ρ, RS G X.K md σ ρ H ∧ Want (evalRs md modes call ms ρ) fun rs ρ' => ∀ vs H', Fr σ ρ H H' → Sub ρ ρ' → RS G X.K md σ ρ' H' → RepRVs X.K σ H' vs rs → rBlt X.K bl vs H' Q) := by
  obtain ⟨G, ρ, R, w⟩ := w
  refine ⟨G, ρ, R, w.bind.mono fun rs ρ1 w vs H1 fr1 sb1 R1 rep1 => ?_⟩
  obtain ⟨ds, e, w⟩ := Want.on w
  obtain ⟨r, e2, p⟩ := Want.ofO w
  exact ⟨ds, r, rds_of R1 rep1 e, e2, RNew.of R1 (Aft.back fr1 sb1 p)⟩
theorem pd_bltB {x : Str} {p : Pos} {id : String} (bl : Blt) (hc : CallR X (.builtin id) (rBlt X.K bl)) (hg : Gl X x) (hm : X.mg x = none) (hv : bootBuiltins x = some (.builtin id)) (ha : RD md modes call X (e :: es) ms) (hn : x ≠ "__name__" := by decide) (hdb : (x == ("__debug__" : Str)) = false := by decide)
    (he : starEach (e :: es) X.env = (false, eval e X.env) :: starEach es X.env := by rfl) (hpl : (backTo pos (starEach es X.env)).any (·.1) = false := by rfl) : PD md modes call X (.Call (.Name x p) (e :: es) [] pos) (.blt bl ms) :=
  PE.imp (pe_callB hc hg hm hv ha hn hdb he hpl) fun σ H Q w => blt_red w
theorem pd_bltT {x : Str} {p : Pos} {id : String} (bl : Blt) (hc : CallR X (.type id) (rBlt X.K bl)) (hg : Gl X x) (hm : X.mg x = none) (hv : bootBuiltins x = some (.type id)) (ha : RD md modes call X (e :: es) ms) (hn : x ≠ "__name__" := by decide) (hdb : (x == ("__debug__" : Str)) = false := by decide)
    (he : starEach (e :: es) X.env = (false, eval e X.env) :: starEach es X.env := by rfl) (hpl : (backTo pos (starEach es X.env)).any (·.1) = false := by rfl) : PD md modes call X (.Call (.Name x p) (e :: es) [] pos) (.blt bl ms) :=
  PE.imp (pe_callTy hc hg hm hv ha hn hdb he hpl) fun σ H Q w => blt_red w
end
end Dn
/-! Den7: calls -/
namespace Dn
open PySem PySem.Spec PyProof.Rows L2

/-! ### what a def promises -/
def ArgS (K : PySem.W.Frag) (H : Hp) (v : V) : Slot → Prop
  | .val d => Rep K H v d
  | .own d => RepO K H v d
  | .un => False
def AOwn (vs : List V) (ss : List Slot) (b : Addr) : Prop := ∃ (i : Nat) (d : PyData), ss[i]? = some (.own d) ∧ vs[i]? = some (.ref b)
structure ArgsOk (K : PySem.W.Frag) (md : List Bool) (H : Hp) (vs : List V) (ss : List Slot) : Prop where
  rep : Paired (ArgS K H) vs ss
  dis : ∀ (i j : Nat) (b : Addr) d e, ss[i]? = some (.own d) → ss[j]? = some (.own e) → vs[i]? = some (.ref b) → vs[j]? = some (.ref b) → i = j
  md : ∀ (i : Nat) d, ss[i]? = some (.own d) → md[i]? = some true
/-- at the end: the lists that were handed in -/
def OutsOk (K : PySem.W.Frag) (H : Hp) (vs : List V) (ss outs : List Slot) : Prop := ∀ (i : Nat) d v, ss[i]? = some (.own d) → vs[i]? = some v → ∃ s, outs[i]? = some s ∧ ArgS K H v s
def WantC (r : CRes) (P : EV → List Slot → Prop) : Prop := match r with
  | .ok e outs => P e outs
  | _ => False
def spF (K : PySem.W.Frag) (md : List Bool) (f : List Slot → CRes) : Sp := fun vs H Q _ => ∃ ss, ArgsOk K md H vs ss ∧ WantC (f ss) fun e outs => ∀ v H', (∀ b u, H b = some u → ¬ AOwn vs ss b → H' b = some u) → (∀ b, H' b = none → H b = none) →
  RepN K H H' v e → OutsOk K H' vs ss outs → Q v H'
/-- a def, where no repr runs around -/
structure FnG (P : Program) (w : World) (K : PySem.W.Frag) (mg : Str → Option Value) (base : Heap) (k : Nat) (f : Addr) (fd : FuncData) (ps : List Str) (sp : Sp) : Prop where
  len : ∀ vs H Q E, sp vs H Q E → vs.length = ps.length
  run : ∀ (A : Around) (outer : List PySem.Env) (s : Shared) (H : Hp) (args : Args) (us : List Value) (vs : List V) (Q : VK) (E : XK), Room k A → A.guards = some [] → Env0 P w K mg base A outer s H → BindsTo s fd args (ps.zip us) → Vals vs us → sp vs H Q E →
    codeAny (model P w) A (.call (.ref f) args) (CR CX0 outer P w H s Q E) s
section
variable {X : Cx} {k : Nat} {f : Addr} {fd : FuncData} {ps : List Str} {sp : Sp} {ds : List Value} {dvs : List V} {x : Str} {p pos : Pos} {e : Expr} {es : List Expr} {t : TA}
theorem run_fnG {pins : List (Addr × Obj)} {σ : L2.St} {H : Hp} {s : Shared} {Q : VK} {us : List Value} {vs : List V} (F : FnG X.prog X.w X.K X.mg X.base k f fd ps sp) (hr : Room k X.A) (hgd : X.A.guards = some []) (hb : Binds X.K fd ps [])
    (I : L2.Inv X pins σ H s) (r : Vals vs us) (h : sp vs H Q E0) : wpAny (model X.prog X.w) X.A (PySem.call (.ref f) us) (EP X pins σ Q) X.xe s := by
  have hl : us.length = ps.length := by rw [← r.length]; exact F.len _ _ _ _ h
  have hb' := hb s us I.kIn (by rw [List.append_nil]; exact hl)
  rw [List.append_nil] at hb'
  refine wpAny_call (codeAny_mono (F.run X.A X.stack s H ⟨us, []⟩ us vs Q E0 hr hgd I.env0 hb' r h) fun r s' hq => ?_)
  cases r with
  | error e => exact False.elim hq
  | ok fl =>
    cases fl with
    | ret u => exact I.after hq
    | next => exact False.elim hq
    | brk => exact False.elim hq
    | cont => exact False.elim hq
theorem pe_callG (F : FnG X.prog X.w X.K X.mg X.base k f fd ps sp) (hr : Room k X.A) (hgd : X.A.guards = some []) (hg : Gl X x) (hm : X.mg x = some (.ref f)) (hk : PySem.W.keepIn X.K (.ref f) = true) (hb : Binds X.K fd ps [])
    (ha : PA X (e :: es) t) (hdb : (x == ("__debug__" : Str)) = false := by decide) (he : starEach (e :: es) X.env = (false, eval e X.env) :: starEach es X.env := by rfl) (hpl : (backTo pos (starEach es X.env)).any (·.1) = false := by rfl) :
    PE X (.Call (.Name x p) (e :: es) [] pos) (fun σ H Q => t σ H fun vs H1 => sp vs H1 Q E0) := by
  refine ⟨fun pins s σ H Q I h => ?_⟩
  refine wpAny_Call_Name_kw (ld_glob I hg hm ?_ hdb)
  refine PySem.W.callWith_K (h₀ := X.base) I.ok.mod.kin hk (thn (ha.run pos pins s σ H _ I h) fun us s1 ⟨vs, H1, I1, r, q⟩ => ⟨I1.kIn, ?_⟩) he hpl
  exact run_fnG F hr hgd hb I1 r q
theorem pe_callG0 (F : FnG X.prog X.w X.K X.mg X.base k f fd ps sp) (hr : Room k X.A) (hgd : X.A.guards = some []) (hg : Gl X x) (hm : X.mg x = some (.ref f)) (hk : PySem.W.keepIn X.K (.ref f) = true) (hb : Binds X.K fd ps [])
    (hdb : (x == ("__debug__" : Str)) = false := by decide) : PE X (.Call (.Name x p) [] [] pos) (fun σ H Q => sp [] H Q E0) := by
  refine ⟨fun pins s σ H Q I h => ?_⟩
  refine wpAny_Call_Name_kw (ld_glob I hg hm ?_ hdb)
  exact PySem.W.callWith_K0 I.kIn hk (run_fnG (us := []) F hr hgd hb I .nil h)
end

/-! ### arguments -/
def RepAV (K : PySem.W.Frag) (σ : St) (H : Hp) (v : V) : AV → Prop
  | .dat d => Rep K H v d
  | .sl i => σ[i]? = some (some v)
theorem RepAV.mono {K : PySem.W.Frag} {σ : St} {H H' : Hp} {v : V} {a : AV} (e : Ext H H') (h : RepAV K σ H v a) : RepAV K σ H' v a := by
  cases a with
  | dat d => exact Rep.mono e h
  | sl i => exact h
theorem PE.toA {X : Cx} {e : Expr} {md : List Bool} {f : Dn.Env → Res EV} (m : Bool) (h : PE X e (tE X.K md f)) :
    PE X e (fun σ H Q => ∃ G ρ, RS G X.K md σ ρ H ∧ Want ((f ρ).bind (asArg m)) fun a ρ' => ∀ v H', Fr σ ρ H H' → Sub ρ ρ' → RS G X.K md σ ρ' H' → RepAV X.K σ H' v a → Q v H') := by
  refine PE.lock (PE.toR h) fun σ H Q w => ?_
  obtain ⟨G, ρ, R, w⟩ := w
  refine ⟨G, ρ, R, w.bind.mono fun x ρ' q v H' fr sb R' rep => ?_⟩
  have plain : Want ((settle x ρ').bind fun d ρ => Res.ok (AV.dat d) ρ) (fun a ρ' => ∀ v H', Fr σ ρ H H' → Sub ρ ρ' → RS G X.K md σ ρ' H' → RepAV X.K σ H' v a → Q v H') →
      (Q v H' ∨ ∃ a xs, H' a = some (.lst xs) ∧ ∀ o, Q v (upd H' a (.frz o (.lst xs)))) := fun q => by
    cases x with
    | val d => exact .inl ((show ∀ v H', Fr σ ρ H H' → Sub ρ ρ' → RS G X.K md σ ρ' H' → RepAV X.K σ H' v (.dat d) → Q v H' from q) v H' fr sb R' rep)
    | fr d => exact .inl ((show ∀ v H', Fr σ ρ H H' → Sub ρ ρ' → RS G X.K md σ ρ' H' → RepAV X.K σ H' v (.dat d) → Q v H' from q) v H' fr sb R' rep)
    | al i =>
      have rep : σ[i]? = some (some v) := rep
      have q : Want ((match ρ'[i]? with
        | some (.val d) => Res.ok d ρ'
        | some (.own d) => .ok d (ρ'.set i (.val d))
        | _ => .stuck).bind fun d ρ => Res.ok (AV.dat d) ρ) (fun a ρ' => ∀ v H', Fr σ ρ H H' → Sub ρ ρ' → RS G X.K md σ ρ' H' → RepAV X.K σ H' v a → Q v H') := q
      cases z : ρ'[i]? with
      | none => rw [z] at q; exact False.elim q
      | some s =>
        rw [z] at q
        cases s with
        | un => exact False.elim q
        | val d =>
          obtain ⟨v', h1, h2⟩ := R'.val i d z
          rw [rep] at h1; cases h1
          exact .inl (q v H' fr sb R' h2)
        | own d =>
          obtain ⟨a, xs, rfl, h4, ow, L⟩ := lock_slot R' z rep
          exact .inr ⟨a, xs, h4, fun o => q _ _ (fr.trans sb (L o).1) (sb.trans (Sub.set z (.lock _ _))) (L o).2.1 (L o).2.2⟩
  cases m with
  | false => exact plain (by cases x <;> exact q)
  | true =>
    cases x with
    | val d => exact plain q
    | fr d => exact plain q
    | al i => exact .inl ((show ∀ v H', Fr σ ρ H H' → Sub ρ ρ' → RS G X.K md σ ρ' H' → RepAV X.K σ H' v (.sl i) → Q v H' from q) v H' fr sb R' rep)
section
variable {md : List Bool} {modes : Nat → List Bool} {call : Calls} {X : Cx} {e : Expr} {es : List Expr} {m : ME} {ms : List ME} {pos : Pos}
/-- arguments; a slot's list is handed in only where the mode says so -/
def AD (md : List Bool) (modes : Nat → List Bool) (call : Calls) (X : Cx) (bs : List Bool) (es : List Expr) (ms : List ME) : Prop := PA X es fun σ H Q => ∃ G ρ, RS G X.K md σ ρ H ∧ Want (evalAs md modes call bs ms ρ) fun as ρ' => ∀ vs H', Fr σ ρ H H' → Sub ρ ρ' → RS G X.K md σ ρ' H' →
  Paired (RepAV X.K σ H') vs as → (∀ (j i : Nat), as[j]? = some (.sl i) → bs[j]? = some true) → Q vs H'
theorem ad_nil {bs : List Bool} : AD md modes call X bs [] [] := PA.imp pa_nil fun σ H Q ⟨G, ρ, R, w⟩ => w [] H Fr.refl (Sub.refl ρ) R .nil (fun j i h => by simp at h)
theorem ad_cons {bs : List Bool} (ha : PD md modes call X e m) (hr : AD md modes call X bs.tail es ms) (hs : starEach (e :: es) X.env = (false, eval e X.env) :: starEach es X.env := by rfl) : AD md modes call X bs (e :: es) (m :: ms) := by
  refine PA.imp (pa_cons (PE.toA (bs.head?.getD false) ha) hr hs) fun σ H Q ⟨G, ρ, R, w⟩ => ?_
  refine ⟨G, ρ, R, w.bind.mono_eq fun a ρ1 ea w v H1 fr1 sb1 R1 rep1 => ⟨G, ρ1, R1, w.bind.mono fun as ρ2 w vs H2 fr2 sb2 R2 rep2 md2 => ?_⟩⟩
  have w : ∀ vs H', Fr σ ρ H H' → Sub ρ ρ2 → RS G X.K md σ ρ2 H' → Paired (RepAV X.K σ H') vs (a :: as) → (∀ (j i : Nat), (a :: as)[j]? = some (.sl i) → bs[j]? = some true) → Q vs H' := w
  refine w _ _ (fr1.trans sb1 fr2) (sb1.trans sb2) R2 (.cons (rep1.mono (R1.ext fr2)) rep2) fun j i h => ?_
  cases j with
  | zero =>
    have h : a = .sl i := by simpa using h
    subst h
    obtain ⟨x, ρ0, _, e2⟩ := bind_inv ea
    cases bs with
    | nil =>
      have e2 : (settle x ρ0).bind (fun d ρ => Res.ok (AV.dat d) ρ) = .ok (.sl i) ρ1 := by
        cases x <;> exact e2
      obtain ⟨_, _, _, z⟩ := bind_inv e2
      cases z
    | cons b bs =>
      cases b with
      | true => rfl
      | false =>
        have e2 : (settle x ρ0).bind (fun d ρ => Res.ok (AV.dat d) ρ) = .ok (.sl i) ρ1 := by
          cases x <;> exact e2
        obtain ⟨_, _, _, z⟩ := bind_inv e2
        cases z
  | succ j =>
    have q := md2 j i (by simpa using h)
    cases bs with
    | nil => simp at q
    | cons b bs => simpa using q
end
/-! ### slots handed in and back -/
theorem argSlots_get : ∀ {ρ : Env} {as : List AV} {ss : List Slot}, argSlots ρ as = some ss → as.length = ss.length ∧ ∀ (j : Nat) s, ss[j]? = some s → (∃ d, as[j]? = some (.dat d) ∧ s = .val d) ∨ (∃ i d, as[j]? = some (.sl i) ∧ ρ[i]? = some (.val d) ∧ s = .val d) ∨
    ∃ i d, as[j]? = some (.sl i) ∧ ρ[i]? = some (.own d) ∧ s = .own d ∧ ∀ l, j < l → as[l]? ≠ some (.sl i)
  | ρ, [], ss, h => by
    cases h
    exact ⟨rfl, fun j s h => by simp at h⟩
  | ρ, .dat d :: r, ss, h => by
    obtain ⟨ss', e1, e2⟩ := Option.map_eq_some_iff.mp (show (argSlots ρ r).map (Slot.val d :: ·) = some ss from h)
    subst e2
    obtain ⟨h1, h2⟩ := argSlots_get e1
    refine ⟨by rw [List.length_cons, List.length_cons, h1], fun j s h => ?_⟩
    cases j with
    | zero => exact .inl ⟨d, rfl, by simpa using h.symm⟩
    | succ j =>
      rcases h2 j s (by simpa using h) with ⟨d, a, b⟩ | ⟨i, d, a, b, c⟩ | ⟨i, d, a, b, c, e⟩
      · exact .inl ⟨d, by simpa using a, b⟩
      · exact .inr (.inl ⟨i, d, by simpa using a, b, c⟩)
      · exact .inr (.inr ⟨i, d, by simpa using a, b, c, fun l hl => by
          cases l with
          | zero => omega
          | succ l => simpa using e l (by omega)⟩)
  | ρ, .sl i :: r, ss, h => by
    unfold argSlots at h
    cases z : ρ[i]? with
    | none => simp [z] at h
    | some s0 =>
      cases s0 with
      | un => simp [z] at h
      | val d =>
        simp only [z] at h
        obtain ⟨ss', e1, e2⟩ := Option.map_eq_some_iff.mp h
        subst e2
        obtain ⟨h1, h2⟩ := argSlots_get e1
        refine ⟨by rw [List.length_cons, List.length_cons, h1], fun j s h => ?_⟩
        cases j with
        | zero => exact .inr (.inl ⟨i, d, rfl, z, by simpa using h.symm⟩)
        | succ j =>
          rcases h2 j s (by simpa using h) with ⟨d, a, b⟩ | ⟨i, d, a, b, c⟩ | ⟨i, d, a, b, c, e⟩
          · exact .inl ⟨d, by simpa using a, b⟩
          · exact .inr (.inl ⟨i, d, by simpa using a, b, c⟩)
          · exact .inr (.inr ⟨i, d, by simpa using a, b, c, fun l hl => by
              cases l with
              | zero => omega
              | succ l => simpa using e l (by omega)⟩)
      | own d =>
        simp only [z] at h
        split at h
        · cases h
        rename_i hno
        obtain ⟨ss', e1, e2⟩ := Option.map_eq_some_iff.mp h
        subst e2
        obtain ⟨h1, h2⟩ := argSlots_get e1
        refine ⟨by rw [List.length_cons, List.length_cons, h1], fun j s h => ?_⟩
        cases j with
        | zero =>
          refine .inr (.inr ⟨i, d, rfl, z, by simpa using h.symm, fun l hl q => hno ?_⟩)
          cases l with
          | zero => omega
          | succ l =>
            have q : r[l]? = some (.sl i) := by simpa using q
            exact List.any_eq_true.mpr ⟨_, List.mem_of_getElem? q, by simp⟩
        | succ j =>
          rcases h2 j s (by simpa using h) with ⟨d, a, b⟩ | ⟨i, d, a, b, c⟩ | ⟨i, d, a, b, c, e⟩
          · exact .inl ⟨d, by simpa using a, b⟩
          · exact .inr (.inl ⟨i, d, by simpa using a, b, c⟩)
          · exact .inr (.inr ⟨i, d, by simpa using a, b, c, fun l hl => by
              cases l with
              | zero => omega
              | succ l => simpa using e l (by omega)⟩)
theorem putBack_get : ∀ {as : List AV} {outs : List Slot} {ρ : Env} {j : Nat} {s : Slot}, (putBack as outs ρ)[j]? = some s →
    (ρ[j]? = some s ∧ ∀ (p : Nat) d, as[p]? = some (.sl j) → ρ[j]? = some (.own d) → outs[p]? = none) ∨ (∃ (p : Nat) (d : PyData), as[p]? = some (.sl j) ∧ ρ[j]? = some (.own d) ∧ outs[p]? = some s)
  | [], outs, ρ, j, s, h => .inl ⟨by cases outs <;> exact h, fun p d e => by simp at e⟩
  | .dat d0 :: r, [], ρ, j, s, h => .inl ⟨h, fun p d e _ => by simp⟩
  | .sl i :: r, [], ρ, j, s, h => .inl ⟨h, fun p d e _ => by simp⟩
  | .dat d0 :: r, s0 :: ss, ρ, j, s, h => by
    have h : (putBack r ss ρ)[j]? = some s := h
    rcases putBack_get h with ⟨h1, h2⟩ | ⟨p, d, h1, h2, h3⟩
    · refine .inl ⟨h1, fun p d e q => ?_⟩
      cases p with
      | zero => simp at e
      | succ p => simpa using h2 p d (by simpa using e) q
    · exact .inr ⟨p + 1, d, by simpa using h1, h2, by simpa using h3⟩
  | .sl i :: r, s0 :: ss, ρ, j, s, h => by
    have h : (putBack r ss (match ρ[i]? with | some (.own _) => ρ.set i s0 | _ => ρ))[j]? = some s := h
    by_cases ho : ∃ d, ρ[i]? = some (.own d)
    · obtain ⟨d0, ho⟩ := ho
      rw [ho] at h
      have hi : i < ρ.length := (List.getElem?_eq_some_iff.mp ho).1
      rcases putBack_get h with ⟨h1, h2⟩ | ⟨p, d, h1, h2, h3⟩
      · by_cases hij : i = j
        · subst hij
          rw [List.getElem?_set_self hi] at h1
          cases h1
          exact .inr ⟨0, d0, rfl, ho, rfl⟩
        · rw [List.getElem?_set_ne hij] at h1 h2
          refine .inl ⟨h1, fun p d e q => ?_⟩
          cases p with
          | zero => simp at e; exact absurd e hij
          | succ p => simpa using h2 p d (by simpa using e) q
      · by_cases hij : i = j
        · subst hij
          exact .inr ⟨p + 1, d0, by simpa using h1, ho, by simpa using h3⟩
        · rw [List.getElem?_set_ne hij] at h2
          exact .inr ⟨p + 1, d, by simpa using h1, h2, by simpa using h3⟩
    · have e : (match ρ[i]? with | some (.own _) => ρ.set i s0 | _ => ρ) = ρ := by
        cases z : ρ[i]? with
        | none => rfl
        | some t =>
          cases t with
          | own d => exact absurd ⟨d, z⟩ ho
          | _ => rfl
      rw [e] at h
      rcases putBack_get h with ⟨h1, h2⟩ | ⟨p, d, h1, h2, h3⟩
      · refine .inl ⟨h1, fun p d e q => ?_⟩
        cases p with
        | zero =>
          have e : i = j := by simpa using e
          subst e
          exact absurd ⟨d, q⟩ ho
        | succ p => simpa using h2 p d (by simpa using e) q
      · exact .inr ⟨p + 1, d, by simpa using h1, h2, by simpa using h3⟩
theorem putBack_length : ∀ {as : List AV} {outs : List Slot} {ρ : Env}, (putBack as outs ρ).length = ρ.length
  | [], outs, ρ => by cases outs <;> rfl
  | .dat d0 :: r, [], ρ => rfl
  | .sl i :: r, [], ρ => rfl
  | .dat d0 :: r, s0 :: ss, ρ => putBack_length (as := r) (outs := ss) (ρ := ρ)
  | .sl i :: r, s0 :: ss, ρ => by
    show (putBack r ss (match ρ[i]? with | some (.own _) => ρ.set i s0 | _ => ρ)).length = _
    rw [putBack_length]
    split
    · rw [List.length_set]
    · rfl
section
variable {G : Gh} {K : PySem.W.Frag} {md mdf : List Bool} {σ : St} {ρ : Env} {H H' : Hp} {vs : List V} {as : List AV} {ss outs : List Slot}
theorem Paired.get2 {α β : Type} {F : α → β → Prop} : ∀ {l : List α} {r : List β} {i : Nat} {b : β}, Paired F l r → r[i]? = some b → ∃ a, l[i]? = some a ∧ F a b
  | _, _, _, _, .nil, e => by simp at e
  | _, _, 0, _, .cons h _, e => by simp at e; subst e; exact ⟨_, rfl, h⟩
  | _, _, i + 1, _, .cons _ t, e => by
    obtain ⟨a, h1, h2⟩ := Paired.get2 (i := i) t (by simpa using e)
    exact ⟨a, by simpa using h1, h2⟩
theorem Paired.mk2 {α β : Type} {F : α → β → Prop} : ∀ {l : List α} {r : List β}, l.length = r.length → (∀ (i : Nat) a b, l[i]? = some a → r[i]? = some b → F a b) → Paired F l r
  | [], [], _, _ => .nil
  | a :: l, b :: r, h, g => .cons (g 0 a b rfl rfl) (Paired.mk2 (by simpa using h) fun i a b e1 e2 => g (i + 1) a b (by simpa using e1) (by simpa using e2))
theorem own_arg (rep : Paired (RepAV K σ H) vs as) (ha : argSlots ρ as = some ss) {j : Nat} {d : PyData} (h : ss[j]? = some (.own d)) : ∃ i v, as[j]? = some (.sl i) ∧ ρ[i]? = some (.own d) ∧ vs[j]? = some v ∧ σ[i]? = some (some v) ∧ ∀ l, j < l → as[l]? ≠ some (.sl i) := by
  rcases (argSlots_get ha).2 j _ h with ⟨d', _, e⟩ | ⟨i, d', _, _, e⟩ | ⟨i, d', a, b, e, c⟩
  · cases e
  · cases e
  · cases e
    obtain ⟨v, h1, h2⟩ := Paired.get2 rep a
    exact ⟨i, v, a, b, h1, h2, c⟩
theorem args_ok (R : RS G K md σ ρ H) (rep : Paired (RepAV K σ H) vs as) (hm : ∀ (j i : Nat), as[j]? = some (.sl i) → mdf[j]? = some true) (ha : argSlots ρ as = some ss) : ArgsOk K mdf H vs ss := by
  obtain ⟨hl, hg⟩ := argSlots_get ha
  refine ⟨Paired.mk2 ((Paired.length rep).trans hl) fun j v s hv hs => ?_, fun j k b d e h1 h2 h3 h4 => ?_, fun j d h => ?_⟩
  · rcases hg j s hs with ⟨d, a, rfl⟩ | ⟨i, d, a, b, rfl⟩ | ⟨i, d, a, b, rfl, _⟩
    · obtain ⟨v', q1, q2⟩ := Paired.get2 rep a
      rw [hv] at q1; cases q1
      exact q2
    · obtain ⟨v', q1, q2⟩ := Paired.get2 rep a
      rw [hv] at q1; cases q1
      obtain ⟨v2, q3, q4⟩ := R.val i d b
      have q2 : σ[i]? = some (some v) := q2
      rw [q2] at q3; cases q3
      exact q4
    · obtain ⟨v', q1, q2⟩ := Paired.get2 rep a
      rw [hv] at q1; cases q1
      obtain ⟨v2, q3, q4⟩ := R.own i d b
      have q2 : σ[i]? = some (some v) := q2
      rw [q2] at q3; cases q3
      exact q4
  · obtain ⟨i1, v1, a1, o1, w1, s1, n1⟩ := own_arg rep ha h1
    obtain ⟨i2, v2, a2, o2, w2, s2, n2⟩ := own_arg rep ha h2
    rw [h3] at w1; cases w1
    rw [h4] at w2; cases w2
    have e : i1 = i2 := R.dis i1 i2 b d e o1 o2 s1 s2
    subst e
    rcases Nat.lt_trichotomy j k with z | z | z
    · exact absurd a2 (n1 k z)
    · exact z
    · exact absurd a1 (n2 j z)
  · obtain ⟨i1, v1, a1, _⟩ := own_arg rep ha h
    exact hm j i1 a1
theorem aown_owned (rep : Paired (RepAV K σ H) vs as) (ha : argSlots ρ as = some ss) {b : Addr} (h : AOwn vs ss b) : Owned σ ρ b := by
  obtain ⟨j, d, h1, h2⟩ := h
  obtain ⟨i, v, a1, o1, w1, s1, _⟩ := own_arg rep ha h1
  rw [h2] at w1; cases w1
  exact ⟨i, d, o1, s1⟩
/-- behind a call -/
theorem after_call (R : RS G K md σ ρ H) (rep : Paired (RepAV K σ H) vs as) (ha : argSlots ρ as = some ss) (kp : ∀ b u, H b = some u → ¬ AOwn vs ss b → H' b = some u) (th : ∀ b, H' b = none → H b = none) (ho : OutsOk K H' vs ss outs) :
    Fr σ ρ H H' ∧ Sub ρ (putBack as outs ρ) ∧ RS G K md σ (putBack as outs ρ) H' := by
  have fr : Fr σ ρ H H' := ⟨fun b u e n => kp b u e fun q => n (aown_owned rep ha q), th⟩
  have x := R.ext fr
  -- what stands in a slot behind the call
  have out : ∀ {j p : Nat} {d : PyData} {s : Slot}, as[p]? = some (.sl j) → ρ[j]? = some (.own d) → outs[p]? = some s → ∃ v, σ[j]? = some (some v) ∧ ArgS K H' v s := fun {j p d s} a o q => by
    obtain ⟨v, h1, h2⟩ := Paired.get2 rep a
    have hp : p < ss.length := by rw [← (argSlots_get ha).1]; exact (List.getElem?_eq_some_iff.mp a).1
    have hs : ss[p]? = some ss[p] := List.getElem?_eq_getElem hp
    have own : ∃ d, ss[p]? = some (.own d) := by
      rcases (argSlots_get ha).2 p _ hs with ⟨d', a', e⟩ | ⟨i, d', a', b, e⟩ | ⟨i, d', a', b, e, c⟩
      · rw [a] at a'; cases a'
      · rw [a] at a'; cases a'; rw [o] at b; cases b
      · exact ⟨d', by rw [hs, e]⟩
    obtain ⟨d', own⟩ := own
    obtain ⟨s', q1, q2⟩ := ho p d' v own h1
    rw [q] at q1; cases q1
    exact ⟨v, h2, q2⟩
  have sub : Sub ρ (putBack as outs ρ) := ⟨putBack_length.symm, fun j s h => by
    rcases putBack_get h with ⟨h1, _⟩ | ⟨p, d, h1, h2, h3⟩
    · exact ⟨s, h1, .refl s⟩
    · obtain ⟨v, _, q⟩ := out h1 h2 h3
      refine ⟨_, h2, ?_⟩
      cases s with
      | un => exact False.elim q
      | val e => exact .lock _ _
      | own e => exact .own _ _⟩
  refine ⟨fr, sub, ⟨R.len.trans putBack_length.symm, fun j d h => ?_, fun j d h => ?_, fun j k b d e h1 h2 => ?_, fun j b d h1 => ?_, fun b h => R.thr b (th b h), fun b u h n => ?_, R.fix⟩⟩
  · rcases putBack_get h with ⟨h1, _⟩ | ⟨p, d', h1, h2, h3⟩
    · obtain ⟨v, q1, q2⟩ := R.val j d h1
      exact ⟨v, q1, q2.mono x⟩
    · exact out h1 h2 h3
  · rcases putBack_get h with ⟨h1, hn⟩ | ⟨p, d', h1, h2, h3⟩
    · obtain ⟨v, q1, b, xs, ds, rfl, e2, q4, q5⟩ := R.own j d h1
      refine ⟨_, q1, b, xs, ds, rfl, e2, kp b _ q4 fun q => ?_, q5.mono x⟩
      obtain ⟨p, d', z1, z2⟩ := q
      obtain ⟨i, v, a1, o1, w1, s1, _⟩ := own_arg rep ha z1
      rw [z2] at w1; cases w1
      have e : i = j := R.dis i j b _ _ o1 h1 s1 q1
      subst e
      have z3 := hn p d a1 h1
      obtain ⟨s', q6, _⟩ := ho p d' _ z1 z2
      rw [z3] at q6; cases q6
    · exact out h1 h2 h3
  · obtain ⟨_, p'⟩ := sub.own h1
    obtain ⟨_, q'⟩ := sub.own h2
    exact R.dis j k b _ _ p' q'
  · obtain ⟨_, p'⟩ := sub.own h1
    exact R.adr j b _ p'
  · refine kp b u (R.keep b u h n) fun q => ?_
    rcases R.adr' (aown_owned rep ha q) with y | y
    · exact n y
    · rw [h] at y; cases y
end
section
variable {md : List Bool} {modes : Nat → List Bool} {call : Calls} {X : Cx} {k : Nat} {fa : Addr} {fd : FuncData} {ps : List Str} {x : Str} {p pos : Pos} {e : Expr} {es : List Expr} {ms : List ME}
theorem call_red {f : Nat} {σ : L2.St} {H : Hp} {Q : VK} (w : tE X.K md (evalE md modes call (.call f ms)) σ H Q) :
    ∃ G ρ, RS G X.K md σ ρ H ∧ Want (evalAs md modes call (modes f) ms ρ) fun as ρ' => ∀ vs H', Fr σ ρ H H' → Sub ρ ρ' → RS G X.K md σ ρ' H' → Paired (RepAV X.K σ H') vs as → (∀ (j i : Nat), as[j]? = some (.sl i) → (modes f)[j]? = some true) → spF X.K (modes f) (call f) vs H' Q E0 := by
  obtain ⟨G, ρ, R, w⟩ := w
  refine ⟨G, ρ, R, w.bind.mono fun as ρ1 w vs H1 fr1 sb1 R1 rep1 hm => ?_⟩
  obtain ⟨ss, ha, w⟩ := Want.on w
  refine ⟨ss, args_ok R1 rep1 hm ha, ?_⟩
  have w : Want (match call f ss with
      | .ok (.al _) _ => .stuck
      | .ok e outs => .ok e (putBack as outs ρ1)
      | .exc x outs => .exc x (putBack as outs ρ1)
      | .stuck => .stuck) (Aft G X.K md σ ρ H Q) := w
  cases z : call f ss with
  | exc x outs => rw [z] at w; exact False.elim w
  | stuck => rw [z] at w; exact False.elim w
  | ok e outs =>
    rw [z] at w
    cases e with
    | al i => exact False.elim w
    | val d =>
      intro v H' kp th rn ho
      obtain ⟨fr2, sb2, R2⟩ := after_call R1 rep1 ha kp th ho
      exact (show Aft G X.K md σ ρ H Q (.val d) (putBack as outs ρ1) from w) v H' (fr1.trans sb1 fr2) (sb1.trans sb2) R2 rn
    | fr d =>
      intro v H' kp th rn ho
      obtain ⟨fr2, sb2, R2⟩ := after_call R1 rep1 ha kp th ho
      obtain ⟨a, e1, hn, r⟩ := rn
      exact (show Aft G X.K md σ ρ H Q (.fr d) (putBack as outs ρ1) from w) v H' (fr1.trans sb1 fr2) (sb1.trans sb2) R2 ⟨a, e1, fr1.2 a hn, r⟩
theorem pd_call {f : Nat} (F : FnG X.prog X.w X.K X.mg X.base k fa fd ps (spF X.K (modes f) (call f))) (hr : Room k X.A) (hgd : X.A.guards = some []) (hg : Gl X x) (hm : X.mg x = some (.ref fa)) (hk : PySem.W.keepIn X.K (.ref fa) = true) (hb : Binds X.K fd ps [])
    (ha : AD md modes call X (modes f) (e :: es) ms) (hdb : (x == ("__debug__" : Str)) = false := by decide) (he : starEach (e :: es) X.env = (false, eval e X.env) :: starEach es X.env := by rfl) (hpl : (backTo pos (starEach es X.env)).any (·.1) = false := by rfl) :
    PD md modes call X (.Call (.Name x p) (e :: es) [] pos) (.call f ms) :=
  PE.imp (pe_callG F hr hgd hg hm hk hb ha hdb he hpl) fun σ H Q w => call_red w
theorem pd_call0 {f : Nat} (F : FnG X.prog X.w X.K X.mg X.base k fa fd ps (spF X.K (modes f) (call f))) (hr : Room k X.A) (hgd : X.A.guards = some []) (hg : Gl X x) (hm : X.mg x = some (.ref fa)) (hk : PySem.W.keepIn X.K (.ref fa) = true) (hb : Binds X.K fd ps [])
    (hdb : (x == ("__debug__" : Str)) = false := by decide) : PD md modes call X (.Call (.Name x p) [] [] pos) (.call f []) :=
  PE.imp (pe_callG0 F hr hgd hg hm hk hb hdb) fun σ H Q w => by
    obtain ⟨G, ρ, R, w⟩ := call_red w
    exact w [] H Fr.refl (Sub.refl ρ) R .nil (fun j i h => by simp at h)
end
end Dn
/-! Den8: what is walked, targets, comprehensions -/
namespace Dn
open PySem PySem.Spec PyProof.Rows L2

/-! ### what is walked -/
def ItOk (K : PySem.W.Frag) (J : It) (H0 : Hp) (ds : List PyData) : Prop :=
  (∀ (i : Nat) d H, Ext H0 H → ds[i]? = some d → J.go i H ∧ ∀ x H', J.yld i H x H' → Ex H H' ∧ Rep K H' x d) ∧ ∀ H, Ext H0 H → J.stop ds.length H
section
variable {K : PySem.W.Frag} {H : Hp} {a b : Addr} {xs ys : List V} {ds es : List PyData}
theorem it_list (h : FzL K H a xs) (r : Reps K H xs ds) : ItOk K (Itl K a) H ds := by
  refine ⟨fun i d H1 e hd => ?_, fun H1 e => ⟨xs, (e.fz h).sq, Nat.le_of_eq r.length⟩⟩
  obtain ⟨v, hv, rv⟩ := r.get hd
  refine ⟨⟨xs, v, (e.fz h).sq, hv⟩, fun x H' y => ?_⟩
  obtain ⟨rfl, q⟩ := y
  have q := q xs (e.fz h).sq
  rw [hv] at q; cases q
  exact ⟨Ex.refl _, rv.mono e⟩
theorem it_tup (h : SqT K H a xs) (r : Reps K H xs ds) : ItOk K (Itt K a) H ds := by
  refine ⟨fun i d H1 e hd => ?_, fun H1 e => ⟨xs, e.sqt h, Nat.le_of_eq r.length⟩⟩
  obtain ⟨v, hv, rv⟩ := r.get hd
  refine ⟨⟨xs, v, e.sqt h, hv⟩, fun x H' y => ?_⟩
  obtain ⟨rfl, q⟩ := y
  have q := q xs (e.sqt h)
  rw [hv] at q; cases q
  exact ⟨Ex.refl _, rv.mono e⟩
theorem it_str (z : Str) : ItOk K (Its z) H (z.cps.toList.map fun c => .str ⟨#[c]⟩) := by
  refine ⟨fun i d H1 e hd => ?_, fun H1 e => by show z.cps.size ≤ _; simp⟩
  rw [List.getElem?_map, Array.getElem?_toList] at hd
  obtain ⟨c, hc, rfl⟩ := Option.map_eq_some_iff.mp hd
  refine ⟨(Array.getElem?_eq_some_iff.mp hc).1, fun x H' y => ?_⟩
  obtain ⟨rfl, c', hc', rfl⟩ := y
  rw [hc] at hc'; cases hc'
  exact ⟨Ex.refl _, .str _⟩
theorem it_range (lo : Int) (n : Nat) : ItOk K (Itr lo n) H ((List.range n).map fun (j : Nat) => .int (lo + (j : Int))) := by
  refine ⟨fun i d H1 e hd => ?_, fun H1 e => by show n ≤ _; simp⟩
  rw [List.getElem?_map] at hd
  obtain ⟨c, hc, rfl⟩ := Option.map_eq_some_iff.mp hd
  obtain ⟨h1, h2⟩ := List.getElem?_eq_some_iff.mp hc
  rw [List.getElem_range] at h2
  subst h2
  refine ⟨show i < n by simpa using h1, fun x H' y => ?_⟩
  obtain ⟨rfl, rfl⟩ := y
  exact ⟨Ex.refl _, .int _⟩
theorem it_enum (h : FzL K H a xs) (r : Reps K H xs ds) : ItOk K (Ite K a) H (ds.zipIdx.map fun (d, j) => .tuple [.int j, d]) := by
  refine ⟨fun i d H1 e hd => ?_, fun H1 e => ⟨xs, (e.fz h).sq, by simp [r.length]⟩⟩
  rw [List.getElem?_map, List.getElem?_zipIdx] at hd
  obtain ⟨⟨d', j⟩, hc, rfl⟩ := Option.map_eq_some_iff.mp hd
  obtain ⟨d2, hd2, e2⟩ := Option.map_eq_some_iff.mp hc
  cases e2
  obtain ⟨v, hv, rv⟩ := r.get hd2
  refine ⟨⟨xs, v, (e.fz h).sq, hv⟩, fun x H' y => ?_⟩
  obtain ⟨T, x', rfl, hT, rfl, q⟩ := y
  have q := q xs (e.fz h).sq
  rw [hv] at q; cases q
  have ex := Ex.new (o := .tup [.int (i : Nat), v]) hT
  refine ⟨ex, .tup (SqT.of upd_same) ?_⟩
  rw [Nat.zero_add]
  exact .cons (.int _) (.cons ((rv.mono e).mono ex.ext) .nil)
theorem it_zip (h : FzL K H a xs) (r : Reps K H xs ds) (h' : FzL K H b ys) (r' : Reps K H ys es) : ItOk K (Itz K a b) H ((ds.zip es).map fun (d, d') => .tuple [d, d']) := by
  refine ⟨fun i d H1 e hd => ?_, fun H1 e => ⟨xs, ys, (e.fz h).sq, (e.fz h').sq, ?_⟩⟩
  · rw [List.getElem?_map] at hd
    obtain ⟨⟨d1, d2⟩, hc, rfl⟩ := Option.map_eq_some_iff.mp hd
    rw [List.getElem?_zip_eq_some] at hc
    obtain ⟨v, hv, rv⟩ := r.get hc.1
    obtain ⟨u, hu, ru⟩ := r'.get hc.2
    refine ⟨⟨xs, ys, v, u, (e.fz h).sq, (e.fz h').sq, hv, hu⟩, fun x H' y => ?_⟩
    obtain ⟨T, x1, x2, rfl, hT, rfl, q1, q2⟩ := y
    have q1 := q1 xs (e.fz h).sq
    have q2 := q2 ys (e.fz h').sq
    rw [hv] at q1; cases q1
    rw [hu] at q2; cases q2
    have ex := Ex.new (o := .tup [v, u]) hT
    exact ⟨ex, .tup (SqT.of upd_same) (.cons ((rv.mono e).mono ex.ext) (.cons ((ru.mono e).mono ex.ext) .nil))⟩
  · simp only [List.length_map, List.length_zip, r.length, r'.length]
    omega
end
section
variable {md : List Bool} {modes : Nat → List Bool} {call : Calls} {X : Cx} {tg e e2 : Expr} {m m2 : ME} {pos p : Pos}
def tI (K : PySem.W.Frag) (md : List Bool) (f : Dn.Env → Res (List PyData)) : TI := fun σ H R => ∃ G ρ, RS G K md σ ρ H ∧ Want (f ρ) fun ds ρ' => ∀ J H', Fr σ ρ H H' → Sub ρ ρ' → RS G K md σ ρ' H' → ItOk K J H' ds → R J H'
def ID (md : List Bool) (modes : Nat → List Bool) (call : Calls) (X : Cx) (tg e : Expr) (m : MI) : Prop := PI X tg e (tI X.K md (evalI md modes call m))
theorem PI.imp {tg e : Expr} {t t' : TI} (h : PI X tg e t) (g : ∀ σ H R, t' σ H R → t σ H R) : PI X tg e t' :=
  ⟨fun pins s σ H R I w => h.run pins s σ H R I (g σ H R w)⟩
theorem id_ex (h : PD md modes call X e m) : ID md modes call X tg e (.ex m) := by
  refine ⟨fun pins s σ H R I w => ?_⟩
  obtain ⟨G, ρ, Rs, w⟩ := w
  have w : Want (((evalE md modes call m ρ).bind settle).bind fun d ρ => ofO (itemsD d) ρ) _ := w
  cases z : (evalE md modes call m ρ).bind settle with
  | exc x ρ => rw [z] at w; exact False.elim w
  | stuck => rw [z] at w; exact False.elim w
  | ok d ρ1 =>
    rw [z] at w
    obtain ⟨ds, e1, w⟩ := Want.ofO w
    have tv : ∀ Q : VK, (∀ v H', Fr σ ρ H H' → Sub ρ ρ1 → RS G X.K md σ ρ1 H' → Rep X.K H' v d → Q v H') → tV X.K md (fun ρ => (evalE md modes call m ρ).bind settle) σ H Q := fun Q q => ⟨G, ρ, Rs, by show Want ((evalE md modes call m ρ).bind settle) _; rw [z]; exact q⟩
    cases d with
    | list l =>
      cases e1
      refine (pi_list (PE.toV h)).run pins s σ H R I (tv _ fun v H' fr sb R' rep => ?_)
      cases rep with
      | lst f r => exact ⟨_, rfl, ⟨_, f.sq⟩, w _ H' fr sb R' (it_list f r)⟩
    | tuple l =>
      cases e1
      refine (pi_tup (PE.toV h)).run pins s σ H R I (tv _ fun v H' fr sb R' rep => ?_)
      cases rep with
      | tup f r => exact ⟨_, rfl, ⟨_, f⟩, w _ H' fr sb R' (it_tup f r)⟩
    | str x =>
      cases e1
      refine (pi_str (PE.toV h)).run pins s σ H R I (tv _ fun v H' fr sb R' rep => ?_)
      cases rep
      exact ⟨x, rfl, w _ H' fr sb R' (it_str x)⟩
    | _ => cases e1
theorem small_of {lo hi : Int} {ds : List PyData} (h : rangeD lo hi = some ds) : (-(2 ^ 62) ≤ lo ∧ lo < 2 ^ 62 ∧ -(2 ^ 62) ≤ hi ∧ hi < 2 ^ 62) ∧ ds = (List.range (hi - lo).toNat).map fun (j : Nat) => PyData.int (lo + (j : Int)) := by
  unfold rangeD at h
  split at h
  · rename_i c
    cases h
    have c1 := of_decide_eq_true c.1
    have c2 := of_decide_eq_true c.2
    exact ⟨⟨c1.1, c1.2, c2.1, c2.2⟩, rfl⟩
  · cases h
theorem id_range1 (hg : Gl X "range") (hm : X.mg "range" = none) (h : PD md modes call X e m) (hs : starEach [e] X.env = [(false, eval e X.env)] := by rfl) : ID md modes call X tg (.Call (.Name "range" p) [e] [] pos) (.range1 m) := by
  refine PI.imp (pi_range1 hg hm (pa_cons (PE.toV h) pa_nil (by rw [hs]; rfl)) hs) fun σ H R ⟨G, ρ, Rs, w⟩ => ⟨G, ρ, Rs, w.bind.mono fun d ρ1 w v H1 fr1 sb1 R1 rep1 => ?_⟩
  cases d with
  | int i =>
    cases rep1
    obtain ⟨ds, e1, w⟩ := Want.ofO w
    obtain ⟨c, rfl⟩ := small_of e1
    refine ⟨i, rfl, c.2.2.1, c.2.2.2, ?_⟩
    have w := w (Itr 0 i.toNat) H1 fr1 sb1 R1 (by rw [Int.sub_zero]; exact it_range 0 i.toNat)
    exact w
  | _ => exact False.elim w
theorem id_range2 (hg : Gl X "range") (hm : X.mg "range" = none) (h : PD md modes call X e m) (h2 : PD md modes call X e2 m2) (hs : starEach [e, e2] X.env = [(false, eval e X.env), (false, eval e2 X.env)] := by rfl) (hs2 : starEach [e2] X.env = [(false, eval e2 X.env)] := by rfl) :
    ID md modes call X tg (.Call (.Name "range" p) [e, e2] [] pos) (.range2 m m2) := by
  refine PI.imp (pi_range2 hg hm (pa_cons (PE.toV h) (pa_cons (PE.toV h2) pa_nil (by rw [hs2]; rfl)) (by rw [hs, hs2])) hs hs2) fun σ H R ⟨G, ρ, Rs, w⟩ => ⟨G, ρ, Rs, w.bind.mono fun d ρ1 w v H1 fr1 sb1 R1 rep1 => ⟨G, ρ1, R1, w.bind.mono fun d2 ρ2 w v2 H2 fr2 sb2 R2 rep2 => ?_⟩⟩
  cases d with
  | int i =>
    cases rep1
    cases d2 with
    | int j =>
      cases rep2
      obtain ⟨ds, e1, w⟩ := Want.ofO w
      obtain ⟨c, rfl⟩ := small_of e1
      exact ⟨i, j, rfl, ⟨c.1, c.2.1, c.2.2.1, c.2.2.2⟩, w (Itr i (j - i).toNat) H2 (fr1.trans sb1 fr2) (sb1.trans sb2) R2 (it_range i _)⟩
    | _ => exact False.elim w
  | _ => exact False.elim w
theorem id_enum {tpos : Pos} {elts : List Expr} {kk : Nat} (hg : Gl X "enumerate") (hm : X.mg "enumerate" = none) (h : PD md modes call X e m) (hs : starEach [e] X.env = [(false, eval e X.env)] := by rfl) : ID md modes call X (.Tuple elts kk tpos) (.Call (.Name "enumerate" p) [e] [] pos) (.enum m) := by
  refine PI.imp (pi_enum hg hm (pa_cons (PE.toV h) pa_nil (by rw [hs]; rfl)) hs) fun σ H R ⟨G, ρ, Rs, w⟩ => ⟨G, ρ, Rs, w.bind.mono fun d ρ1 w v H1 fr1 sb1 R1 rep1 => ?_⟩
  cases d with
  | list l =>
    cases rep1 with
    | lst f r => exact ⟨_, _, rfl, f.sq, (show ∀ J H', Fr σ ρ H H' → Sub ρ ρ1 → RS G X.K md σ ρ1 H' → ItOk X.K J H' _ → R J H' from w) _ H1 fr1 sb1 R1 (it_enum f r)⟩
  | _ => exact False.elim w
theorem id_zip {tpos : Pos} {elts : List Expr} {kk : Nat} (hg : Gl X "zip") (hm : X.mg "zip" = none) (h : PD md modes call X e m) (h2 : PD md modes call X e2 m2) (hs : starEach [e, e2] X.env = (false, eval e X.env) :: starEach [e2] X.env := by rfl) (hpl : (backTo pos (starEach [e2] X.env)).any (·.1) = false := by rfl)
    (hs2 : starEach [e2] X.env = (false, eval e2 X.env) :: starEach [] X.env := by rfl) :
    ID md modes call X (.Tuple elts kk tpos) (.Call (.Name "zip" p) [e, e2] [] pos) (.zip m m2) := by
  refine PI.imp (pi_zip hg hm (pa_cons (PE.toV h) (pa_cons (PE.toV h2) pa_nil hs2) hs) hs hpl) fun σ H R ⟨G, ρ, Rs, w⟩ => ⟨G, ρ, Rs, w.bind.mono fun d ρ1 w v H1 fr1 sb1 R1 rep1 => ⟨G, ρ1, R1, w.bind.mono fun d2 ρ2 w v2 H2 fr2 sb2 R2 rep2 => ?_⟩⟩
  cases d with
  | list l =>
    have rep1 := rep1.mono (R1.ext fr2)
    cases rep1 with
    | lst f r =>
      cases d2 with
      | list l2 =>
        cases rep2 with
        | lst f2 r2 => exact ⟨_, _, _, _, rfl, f.sq, f2.sq, (show ∀ J H', Fr σ ρ H H' → Sub ρ ρ2 → RS G X.K md σ ρ2 H' → ItOk X.K J H' _ → R J H' from w) _ H2 (fr1.trans sb1 fr2) (sb1.trans sb2) R2 (it_zip f r f2 r2)⟩
      | _ => exact False.elim w
  | _ => exact False.elim w
end

/-! ### slots set -/
theorem free_ne {md : List Bool} {i : Nat} (h : free md i = true) : md[i]? ≠ some true := fun z => by
  unfold free at h
  rw [z] at h
  cases h
section
variable {G : Gh} {K : PySem.W.Frag} {md : List Bool} {σ : St} {ρ : Env} {H : Hp} {i : Nat} {v : V} {d : PyData}
/-- a slot is given a new content: what is left to show -/
theorem RS.put (R : RS G K md σ ρ H) (hf : free md i = true) {s : Slot} (hv : ∀ d, s = .val d → Rep K H v d) (ho : ∀ d, s = .own d → RepO K H v d ∧ (∀ b, v = .ref b → ¬ Owned σ ρ b ∧ G.H0 b = none)) : RS G K md (σ.set i (some v)) (ρ.set i s) H := by
  by_cases hi : i < ρ.length
  · have hσ : i < σ.length := by rw [R.len]; exact hi
    have at_i : ∀ {j : Nat} {t : Slot}, (ρ.set i s)[j]? = some t → (j = i ∧ t = s ∧ (σ.set i (some v))[j]? = some (some v)) ∨ (j ≠ i ∧ ρ[j]? = some t ∧ (σ.set i (some v))[j]? = σ[j]?) := fun {j t} h => by
      by_cases z : i = j
      · subst z
        rw [List.getElem?_set_self hi] at h
        cases h
        exact .inl ⟨rfl, rfl, List.getElem?_set_self hσ⟩
      · rw [List.getElem?_set_ne z] at h
        exact .inr ⟨fun q => z q.symm, h, List.getElem?_set_ne z⟩
    refine ⟨by rw [List.length_set, List.length_set]; exact R.len, fun j d h => ?_, fun j d h => ?_, fun j k b d e h1 h2 h3 h4 => ?_, fun j b d h1 h2 => ?_, R.thr, R.keep, fun j u h1 h2 => ?_⟩
    · rcases at_i h with ⟨rfl, e, q⟩ | ⟨_, q1, q2⟩
      · exact ⟨v, q, hv d e.symm⟩
      · rw [q2]; exact R.val j d q1
    · rcases at_i h with ⟨rfl, e, q⟩ | ⟨_, q1, q2⟩
      · exact ⟨v, q, (ho d e.symm).1⟩
      · rw [q2]; exact R.own j d q1
    · rcases at_i h1 with ⟨rfl, e1, q1⟩ | ⟨n1, p1, q1⟩
      · rcases at_i h2 with ⟨rfl, e2, q2⟩ | ⟨n2, p2, q2⟩
        · rfl
        · rw [q1] at h3; cases h3
          rw [q2] at h4
          exact absurd ⟨k, e, p2, h4⟩ ((ho d e1.symm).2 b rfl).1
      · rcases at_i h2 with ⟨rfl, e2, q2⟩ | ⟨n2, p2, q2⟩
        · rw [q2] at h4; cases h4
          rw [q1] at h3
          exact absurd ⟨j, d, p1, h3⟩ ((ho e e2.symm).2 b rfl).1
        · rw [q1] at h3; rw [q2] at h4
          exact R.dis j k b d e p1 p2 h3 h4
    · rcases at_i h1 with ⟨rfl, e1, q1⟩ | ⟨n1, p1, q1⟩
      · rw [q1] at h2; cases h2
        exact .inr ((ho d e1.symm).2 b rfl).2
      · rw [q1] at h2
        exact R.adr j b d p1 h2
    · have z : i ≠ j := fun q => free_ne hf (by rw [q]; exact h1)
      rw [List.getElem?_set_ne z]
      exact R.fix j u h1 h2
  · rw [List.set_eq_of_length_le (by rw [R.len]; omega), List.set_eq_of_length_le (by omega)]
    exact R
theorem RS.putVal (R : RS G K md σ ρ H) (hf : free md i = true) (h : Rep K H v d) : RS G K md (σ.set i (some v)) (ρ.set i (.val d)) H :=
  R.put hf (fun d' e => by cases e; exact h) fun d' e => by cases e
end
end Dn
/-! Den9: targets, comprehensions -/
namespace Dn
open PySem PySem.Spec PyProof.Rows L2

/-! ### targets -/
def Tg.ix : Tg → List Nat
  | .n i => [i]
  | .t is => is
def Off (ix : List Nat) (σ σ' : St) : Prop := σ'.length = σ.length ∧ ∀ j, j ∉ ix → σ'[j]? = σ[j]?
def setsV : List Nat → List V → St → St
  | i :: is, v :: vs, σ => setsV is vs (σ.set i (some v))
  | _, _, σ => σ
theorem setsV_off : ∀ {is : List Nat} {vs : List V} {σ : St}, Off is σ (setsV is vs σ)
  | [], vs, σ => ⟨by cases vs <;> rfl, fun j _ => by cases vs <;> rfl⟩
  | i :: is, [], σ => ⟨rfl, fun _ _ => rfl⟩
  | i :: is, v :: vs, σ => by
    obtain ⟨h1, h2⟩ := setsV_off (is := is) (vs := vs) (σ := σ.set i (some v))
    refine ⟨by rw [setsV, h1, List.length_set], fun j hj => ?_⟩
    rw [setsV, h2 j (fun z => hj (List.mem_cons_of_mem _ z)), List.getElem?_set_ne (fun z => hj (by rw [z]; exact List.mem_cons_self))]
theorem setAll_ok {G : Gh} {K : PySem.W.Frag} {md : List Bool} {H : Hp} : ∀ {is : List Nat} {vs : List V} {ds : List PyData} {σ : St} {ρ ρ' : Env}, RS G K md σ ρ H → (∀ i ∈ is, free md i = true) → Reps K H vs ds → setAll is ds ρ = some ρ' →
    vs.length = is.length ∧ RS G K md (setsV is vs σ) ρ' H ∧ ∀ (j : Nat) d, ρ'[j]? = some (.own d) → j ∉ is ∧ ρ[j]? = some (.own d)
  | [], _, _, σ, ρ, ρ', R, hf, .nil, e => by
    cases e
    exact ⟨rfl, R, fun j d h => ⟨by simp, h⟩⟩
  | [], _, _, σ, ρ, ρ', R, hf, .cons r rs, e => by cases e
  | i :: is, _, _, σ, ρ, ρ', R, hf, .nil, e => by cases e
  | i :: is, v :: vs, d :: ds, σ, ρ, ρ', R, hf, .cons r rs, e => by
    obtain ⟨h1, h2, h3⟩ := setAll_ok (R.putVal (hf i List.mem_cons_self) r) (fun j hj => hf j (List.mem_cons_of_mem _ hj)) rs (show setAll is ds (ρ.set i (.val d)) = some ρ' from e)
    refine ⟨by rw [List.length_cons, List.length_cons, h1], h2, fun j d' h => ?_⟩
    obtain ⟨q1, q2⟩ := h3 j d' h
    by_cases z : i = j
    · subst z
      by_cases hl : i < ρ.length
      · rw [List.getElem?_set_self hl] at q2; cases q2
      · rw [List.getElem?_eq_none (by rw [List.length_set]; omega)] at q2; cases q2
    · rw [List.getElem?_set_ne z] at q2
      exact ⟨fun q => by
        rcases List.mem_cons.mp q with q | q
        · exact z q.symm
        · exact q1 q, q2⟩
def tGt (K : PySem.W.Frag) (md : List Bool) (mt : Tg) : TG := fun v σ H Q => ∃ G ρ d ρ', RS G K md σ ρ H ∧ Rep K H v d ∧ assignT md mt d ρ = some ρ' ∧
  ∀ σ', RS G K md σ' ρ' H → Off mt.ix σ σ' → (∀ (j : Nat) e, ρ'[j]? = some (.own e) → j ∉ mt.ix ∧ ρ[j]? = some (.own e)) → Q σ' H
def GD (md : List Bool) (X : Cx) (tg : Expr) (mt : Tg) : Prop := PG X tg (tGt X.K md mt)
theorem PG.imp {X : Cx} {tg : Expr} {t t' : TG} (h : PG X tg t) (g : ∀ v σ H Q, t' v σ H Q → t v σ H Q) : PG X tg t' :=
  ⟨fun pins s σ H v u Q I r w => h.run pins s σ H v u Q I r (g v σ H Q w)⟩
section
variable {md : List Bool} {X : Cx} {pos : Pos} {es : List Expr}
theorem gd_n (i : Nat) {x : Str} (hN : X.N.Nodup) (hi : X.N[i]? = some x) (hx : Loc X.env.scope x) (hf : X.fn x = true ∨ X.env.scope.names.lookup x = some .local) : GD md X (.Name x pos) (.n i) := by
  refine PG.imp (pg_name hN hi hx hf) fun v σ H Q ⟨G, ρ, d, ρ', R, r, e, q⟩ => ?_
  by_cases hf : free md i = true
  · have e : some (ρ.set i (.val d)) = some ρ' := by rw [← e]; exact (if_pos hf).symm
    cases e
    refine q _ (R.putVal hf r) (setsV_off (is := [i]) (vs := [v])) fun j e h => ?_
    by_cases z : i = j
    · subst z
      by_cases hl : i < ρ.length
      · rw [List.getElem?_set_self hl] at h; cases h
      · rw [List.getElem?_eq_none (by rw [List.length_set]; omega)] at h; cases h
    · rw [List.getElem?_set_ne z] at h
      exact ⟨fun q => z (Eq.symm (by simpa [Tg.ix] using q)), h⟩
  · have e : none = some ρ' := by rw [← e]; exact (if_neg hf).symm
    cases e
/-- names, one after another -/
def NGs (X : Cx) (es : List Expr) (is : List Nat) : Prop := PGs X es fun vs σ H Q => vs.length = is.length ∧ Q (setsV is vs σ) H
theorem PGs.imp {es : List Expr} {t t' : TGs} (h : PGs X es t) (g : ∀ v σ H Q, t' v σ H Q → t v σ H Q) : PGs X es t' :=
  ⟨fun pins s σ H v u Q I r w => h.run pins s σ H v u Q I r (g v σ H Q w)⟩
theorem ngs_nil : NGs X [] [] := PGs.imp pgs_nil fun vs σ H Q ⟨h, q⟩ => by
  cases vs with
  | nil => exact ⟨rfl, q⟩
  | cons v vs => simp at h
theorem ngs_cons {x : Str} (i : Nat) {is : List Nat} (hN : X.N.Nodup) (hi : X.N[i]? = some x) (hx : Loc X.env.scope x) (hf : X.fn x = true ∨ X.env.scope.names.lookup x = some .local) (h : NGs X es is)
    (hs : (assignEach (.Name x pos :: es) X.env).map (·.2) = assign (.Name x pos) X.env :: (assignEach es X.env).map (·.2) := by rfl) : NGs X (.Name x pos :: es) (i :: is) :=
  PGs.imp (pgs_cons (pg_name hN hi hx hf) h hs) fun vs σ H Q ⟨h, q⟩ => by
    cases vs with
    | nil => simp at h
    | cons v vs => exact ⟨v, vs, rfl, by simpa using h, q⟩
theorem gd_t {k n : Nat} {is : List Nat} (hc : X.calm = true) (h : NGs X es is) (hl : is.length = n) (hn : (assignEach es X.env).length = n := by rfl) (hst : (assignEach es X.env).findIdx? (·.1) = none := by rfl) : GD md X (.Tuple es k pos) (.t is) := by
  refine ⟨fun pins s σ H v u Q I r w => ?_⟩
  obtain ⟨G, ρ, d, ρ', R, rep, e, q⟩ := w
  by_cases hf : is.all (free md) = true
  · have hf' : ∀ i ∈ is, free md i = true := List.all_eq_true.mp hf
    cases d with
    | tuple ds =>
      have e : setAll is ds ρ = some ρ' := by rw [← e]; exact (if_pos hf).symm
      cases rep with
      | tup f rs =>
        obtain ⟨h1, h2, h3⟩ := setAll_ok R hf' rs e
        exact (pg_tup hc h hn hst).run pins s σ H _ u Q I r ⟨_, _, rfl, f, h1.trans hl, h1, q _ h2 setsV_off h3⟩
    | list ds =>
      have e : setAll is ds ρ = some ρ' := by rw [← e]; exact (if_pos hf).symm
      cases rep with
      | lst f rs =>
        obtain ⟨h1, h2, h3⟩ := setAll_ok R hf' rs e
        exact (pg_lst hc h hn hst).run pins s σ H _ u Q I r ⟨_, _, rfl, f.sq, h1.trans hl, h1, q _ h2 setsV_off h3⟩
    | _ =>
      have e : none = some ρ' := by rw [← e]; exact (if_pos hf).symm
      cases e
  · have e : none = some ρ' := by rw [← e]; exact (if_neg hf).symm
    cases e
end

theorem setAll_off : ∀ {is : List Nat} {ds : List PyData} {ρ ρ' : Env}, setAll is ds ρ = some ρ' → ρ'.length = ρ.length ∧ ∀ j, j ∉ is → ρ'[j]? = ρ[j]?
  | [], [], ρ, ρ', e => by cases e; exact ⟨rfl, fun _ _ => rfl⟩
  | [], d :: ds, ρ, ρ', e => by cases e
  | i :: is, [], ρ, ρ', e => by cases e
  | i :: is, d :: ds, ρ, ρ', e => by
    obtain ⟨h1, h2⟩ := setAll_off (show setAll is ds (ρ.set i (.val d)) = some ρ' from e)
    refine ⟨by rw [h1, List.length_set], fun j hj => ?_⟩
    rw [h2 j fun z => hj (List.mem_cons_of_mem _ z), List.getElem?_set_ne fun z => hj (by rw [z]; exact List.mem_cons_self)]
theorem assignT_off {md : List Bool} {mt : Tg} {d : PyData} {ρ ρ' : Env} (e : assignT md mt d ρ = some ρ') : ρ'.length = ρ.length ∧ ∀ j, j ∉ mt.ix → ρ'[j]? = ρ[j]? := by
  cases mt with
  | n i =>
    by_cases hf : free md i = true
    · have e : some (ρ.set i (.val d)) = some ρ' := by rw [← e]; exact (if_pos hf).symm
      cases e
      exact ⟨List.length_set, fun j hj => List.getElem?_set_ne fun z => hj (by rw [z]; exact List.mem_cons_self)⟩
    · have e : none = some ρ' := by rw [← e]; exact (if_neg hf).symm
      cases e
  | t is =>
    by_cases hf : is.all (free md) = true
    · cases d with
      | tuple ds => exact setAll_off (ds := ds) (by rw [← e]; exact (if_pos hf).symm)
      | list ds => exact setAll_off (ds := ds) (by rw [← e]; exact (if_pos hf).symm)
      | _ =>
        have e : none = some ρ' := by rw [← e]; exact (if_pos hf).symm
        cases e
    · have e : none = some ρ' := by rw [← e]; exact (if_neg hf).symm
      cases e
/-! ### slots forgotten and given back -/
theorem wipe_in {σ : St} {j : Nat} : ∀ {ws : List Nat}, j ∈ ws → (wipe σ ws)[j]? = if j < σ.length then some none else none
  | w :: ws, h => by
    unfold wipe
    by_cases z : w = j
    · subst z
      by_cases hl : w < σ.length
      · rw [List.getElem?_set_self (by rw [wipe_length]; exact hl), if_pos hl]
      · rw [List.getElem?_eq_none (by rw [List.length_set, wipe_length]; omega), if_neg hl]
    · rw [List.getElem?_set_ne z]
      rcases List.mem_cons.mp h with q | q
      · exact absurd q.symm z
      · exact wipe_in q
theorem wipeS_length (ρ : Env) : ∀ ws : List Nat, (wipeS ws ρ).length = ρ.length
  | [] => rfl
  | w :: ws => by rw [wipeS, List.length_set, wipeS_length ρ ws]
theorem wipeS_in {ρ : Env} {j : Nat} : ∀ {ws : List Nat}, j ∈ ws → (wipeS ws ρ)[j]? = if j < ρ.length then some .un else none
  | w :: ws, h => by
    unfold wipeS
    by_cases z : w = j
    · subst z
      by_cases hl : w < ρ.length
      · rw [List.getElem?_set_self (by rw [wipeS_length]; exact hl), if_pos hl]
      · rw [List.getElem?_eq_none (by rw [List.length_set, wipeS_length]; omega), if_neg hl]
    · rw [List.getElem?_set_ne z]
      rcases List.mem_cons.mp h with q | q
      · exact absurd q.symm z
      · exact wipeS_in q
theorem wipeS_out {ρ : Env} {j : Nat} : ∀ {ws : List Nat}, j ∉ ws → (wipeS ws ρ)[j]? = ρ[j]?
  | [], _ => rfl
  | w :: ws, h => by
    rw [wipeS, List.getElem?_set_ne (fun z => h (by rw [z]; exact List.mem_cons_self)), wipeS_out fun z => h (List.mem_cons_of_mem _ z)]
theorem restore_length (ρ ρ' : Env) : ∀ ws : List Nat, (restore ws ρ ρ').length = ρ'.length
  | [] => rfl
  | w :: ws => by rw [restore, List.length_set, restore_length ρ ρ' ws]
theorem restore_in {ρ ρ' : Env} {j : Nat} : ∀ {ws : List Nat}, j ∈ ws → (restore ws ρ ρ')[j]? = if j < ρ'.length then some ((ρ[j]?).getD .un) else none
  | w :: ws, h => by
    unfold restore
    by_cases z : w = j
    · subst z
      by_cases hl : w < ρ'.length
      · rw [List.getElem?_set_self (by rw [restore_length]; exact hl), if_pos hl]
      · rw [List.getElem?_eq_none (by rw [List.length_set, restore_length]; omega), if_neg hl]
    · rw [List.getElem?_set_ne z]
      rcases List.mem_cons.mp h with q | q
      · exact absurd q.symm z
      · exact restore_in q
theorem restore_out {ρ ρ' : Env} {j : Nat} : ∀ {ws : List Nat}, j ∉ ws → (restore ws ρ ρ')[j]? = ρ'[j]?
  | [], _ => rfl
  | w :: ws, h => by
    rw [restore, List.getElem?_set_ne (fun z => h (by rw [z]; exact List.mem_cons_self)), restore_out fun z => h (List.mem_cons_of_mem _ z)]
theorem wipe_off {σ σ' : St} {ix ws : List Nat} (h : Off ix σ σ') (hs : ∀ j ∈ ix, j ∈ ws) : wipe σ' ws = wipe σ ws := by
  apply List.ext_getElem?
  intro j
  by_cases z : j ∈ ws
  · rw [wipe_in z, wipe_in z, h.1]
  · rw [wipe_out z, wipe_out z, h.2 j fun q => z (hs j q)]
theorem wipe_wipe (σ : St) (ws : List Nat) : wipe (wipe σ ws) ws = wipe σ ws := by
  apply List.ext_getElem?
  intro j
  by_cases z : j ∈ ws
  · rw [wipe_in z, wipe_in z, wipe_length]
  · rw [wipe_out z]
section
variable {G : Gh} {K : PySem.W.Frag} {md : List Bool} {σ : St} {ρ ρ1 ρx : Env} {H H1 Hx : Hp} {ws : List Nat}
theorem wipeS_own {j : Nat} {d : PyData} (h : (wipeS ws ρ)[j]? = some (.own d)) : j ∉ ws ∧ ρ[j]? = some (.own d) := by
  by_cases z : j ∈ ws
  · rw [wipeS_in z] at h; split at h <;> cases h
  · rw [wipeS_out z] at h; exact ⟨z, h⟩
theorem wipeS_val {j : Nat} {d : PyData} (h : (wipeS ws ρ)[j]? = some (.val d)) : j ∉ ws ∧ ρ[j]? = some (.val d) := by
  by_cases z : j ∈ ws
  · rw [wipeS_in z] at h; split at h <;> cases h
  · rw [wipeS_out z] at h; exact ⟨z, h⟩
theorem RS.wipe (R : RS G K md σ ρ H) (hf : ∀ j ∈ ws, free md j = true) : RS G K md (L2.wipe σ ws) (wipeS ws ρ) H := by
  refine ⟨by rw [wipe_length, wipeS_length]; exact R.len, fun j d h => ?_, fun j d h => ?_, fun j k b d e h1 h2 h3 h4 => ?_, fun j b d h1 h2 => ?_, R.thr, R.keep, fun j v h1 h2 => ?_⟩
  · obtain ⟨n, h⟩ := wipeS_val h
    rw [wipe_out n]; exact R.val j d h
  · obtain ⟨n, h⟩ := wipeS_own h
    rw [wipe_out n]; exact R.own j d h
  · obtain ⟨n1, h1⟩ := wipeS_own h1
    obtain ⟨n2, h2⟩ := wipeS_own h2
    rw [wipe_out n1] at h3
    rw [wipe_out n2] at h4
    exact R.dis j k b d e h1 h2 h3 h4
  · obtain ⟨n1, h1⟩ := wipeS_own h1
    rw [wipe_out n1] at h2
    exact R.adr j b d h1 h2
  · rw [wipe_out fun z => free_ne (hf j z) h1]
    exact R.fix j v h1 h2
theorem owned_wipe {b : Addr} (h : Owned (wipe σ ws) (wipeS ws ρ) b) : Owned σ ρ b := by
  obtain ⟨j, d, h1, h2⟩ := h
  obtain ⟨n, h1⟩ := wipeS_own h1
  rw [wipe_out n] at h2
  exact ⟨j, d, h1, h2⟩
/-- an object that no slot holds and that was not there at the start may change its list -/
theorem RS.other (R : RS G K md σ ρ H) {D : Addr} {xs ys : List V} (ho : ¬ Owned σ ρ D) (h0 : G.H0 D = none) (hD : H D = some (.lst xs)) : RS G K md σ ρ (upd H D (.lst ys)) := by
  have x : Ext H (upd H D (.lst ys)) := ⟨fun b zs h => by rw [upd_ne (ne_of h hD (by simp))]; exact h, fun b o u h => by rw [upd_ne (ne_of h hD (by simp))]; exact h⟩
  refine ⟨R.len, fun i d h => ?_, fun i d h => ?_, R.dis, R.adr, fun b h => ?_, fun b u h n => ?_, R.fix⟩
  · obtain ⟨v, h1, h2⟩ := R.val i d h
    exact ⟨v, h1, h2.mono x⟩
  · obtain ⟨v, h1, a, xs, ds, rfl, e2, h4, r⟩ := R.own i d h
    exact ⟨_, h1, a, xs, ds, rfl, e2, by rw [upd_ne (fun z => ho ⟨i, d, h, by rw [h1, z]⟩)]; exact h4, r.mono x⟩
  · by_cases z : b = D
    · rw [z]; exact h0
    · rw [upd_ne z] at h; exact R.thr b h
  · have z : b ≠ D := fun z => by rw [z, h0] at h; cases h
    rw [upd_ne z]; exact R.keep b u h n
/-- behind a comprehension -/
theorem after_comp (R : RS G K md σ ρ1 H1) (hf : ∀ j ∈ ws, free md j = true) (Rx : RS G K md (wipe σ ws) ρx Hx) (sb : Sub (wipeS ws ρ1) ρx) (kp : ∀ b u, H1 b = some u → ¬ Owned (wipe σ ws) (wipeS ws ρ1) b → Hx b = some u) (th : ∀ b, Hx b = none → H1 b = none) :
    Fr σ ρ1 H1 Hx ∧ Sub ρ1 (restore ws ρ1 ρx) ∧ RS G K md σ (restore ws ρ1 ρx) Hx := by
  have fr : Fr σ ρ1 H1 Hx := ⟨fun b u h n => kp b u h fun q => n (owned_wipe q), th⟩
  have x := R.ext fr
  have hlen : ρx.length = ρ1.length := by rw [← sb.1, wipeS_length]
  have sub : Sub ρ1 (restore ws ρ1 ρx) := ⟨by rw [restore_length]; exact hlen.symm, fun j s h => by
    by_cases z : j ∈ ws
    · rw [restore_in z] at h
      split at h
      · rename_i hl
        cases h
        have hl : j < ρ1.length := by omega
        exact ⟨_, List.getElem?_eq_getElem hl, by rw [List.getElem?_eq_getElem hl]; exact .refl _⟩
      · cases h
    · rw [restore_out z] at h
      obtain ⟨t, h1, h2⟩ := sb.2 j s h
      rw [wipeS_out z] at h1
      exact ⟨t, h1, h2⟩⟩
  -- an own slot of the restored ones
  have inw : ∀ {j : Nat} {s : Slot}, j ∈ ws → (restore ws ρ1 ρx)[j]? = some s → s ≠ .un → ρ1[j]? = some s := fun {j s} z h hn => by
    rw [restore_in z] at h
    split at h
    · cases q : ρ1[j]? with
      | none => rw [q] at h; cases h; exact absurd rfl hn
      | some t => rw [q] at h; cases h; rfl
    · cases h
  refine ⟨fr, sub, ⟨by rw [restore_length, hlen]; exact R.len, fun j d h => ?_, fun j d h => ?_, fun j k b d e h1 h2 => ?_, fun j b d h1 => ?_, Rx.thr, Rx.keep, R.fix⟩⟩
  · by_cases z : j ∈ ws
    · obtain ⟨v, q1, q2⟩ := R.val j d (inw z h (by simp))
      exact ⟨v, q1, q2.mono x⟩
    · rw [restore_out z] at h
      have q := Rx.val j d h
      rw [wipe_out z] at q
      exact q
  · by_cases z : j ∈ ws
    · have h1 := inw z h (by simp)
      obtain ⟨v, q1, a, xs, ds, rfl, e2, q4, q5⟩ := R.own j d h1
      refine ⟨_, q1, a, xs, ds, rfl, e2, kp a _ q4 fun q => ?_, q5.mono x⟩
      obtain ⟨k, e, p1, p2⟩ := q
      obtain ⟨n, p1⟩ := wipeS_own p1
      rw [wipe_out n] at p2
      have := R.dis j k a d e h1 p1 q1 p2
      subst this
      exact n z
    · rw [restore_out z] at h
      have q := Rx.own j d h
      rw [wipe_out z] at q
      exact q
  · obtain ⟨_, p⟩ := sub.own h1
    obtain ⟨_, q⟩ := sub.own h2
    exact R.dis j k b _ _ p q
  · obtain ⟨_, p⟩ := sub.own h1
    exact R.adr j b _ p
end
end Dn
/-! Den10: comprehensions -/
namespace Dn
open PySem PySem.Spec PyProof.Rows L2

def tCs (K : PySem.W.Frag) (md : List Bool) (f : Dn.Env → Res Bool) : TT := tTr K md f
def CD (md : List Bool) (modes : Nat → List Bool) (call : Calls) (X : Cx) (cs : List Expr) (ms : List ME) : Prop := PTs X cs (tTr X.K md (evalCs md modes call ms))
section
variable {md : List Bool} {modes : Nat → List Bool} {call : Calls} {X : Cx} {c : Expr} {mc : ME}
theorem PTs.imp {cs : List Expr} {t t' : TT} (h : PTs X cs t) (g : ∀ σ H Q, t' σ H Q → t σ H Q) : PTs X cs t' :=
  ⟨fun pins s σ H Q I w => h.run pins s σ H Q I (g σ H Q w)⟩
theorem cd_nil : CD md modes call X [] [] := PTs.imp pts_nil fun σ H Q ⟨G, ρ, R, w⟩ => w H Fr.refl (Sub.refl ρ) R
theorem cd_one (h : TD md modes call X c mc) : CD md modes call X [c] [mc] := by
  refine PTs.imp (pts_one h) fun σ H Q ⟨G, ρ, R, w⟩ => ⟨G, ρ, R, ?_⟩
  show Want ((evalE md modes call mc ρ).bind _) _
  have w : Want ((evalE md modes call mc ρ).bind _) _ := w
  cases e : evalE md modes call mc ρ with
  | exc x ρ => rw [e] at w; exact False.elim w
  | stuck => rw [e] at w; exact False.elim w
  | ok x ρ1 =>
    rw [e] at w
    obtain ⟨k, e2, w⟩ := Want.on (show Want (on ((deref ρ1 (toR x)).bind truthy) fun k => if k = true then evalCs md modes call [] ρ1 else Res.ok false ρ1) _ from w)
    show Want (on ((deref ρ1 (toR x)).bind truthy) _) _
    rw [e2]
    cases k with
    | true => exact w
    | false => exact w
end
section
variable {md : List Bool} {modes : Nat → List Bool} {call : Calls} {X : Cx}
/-- the turns of a comprehension -/
theorem comp_red {ws : List Nat} {mt : Tg} {mi : MI} {mcs : List ME} {melt : ME} (hsub : ∀ j ∈ mt.ix, j ∈ ws) {σ : L2.St} {H : Hp} {Q : VK} (w : tE X.K md (evalE md modes call (.lc ws mt mi mcs melt)) σ H Q) :
    tLc (tI X.K md (evalI md modes call mi)) (tGt X.K md mt) (tTr X.K md (evalCs md modes call mcs)) (tV X.K md fun ρ => (evalE md modes call melt ρ).bind settle) ws σ H Q := by
  obtain ⟨G, ρ, R, w⟩ := w
  refine ⟨G, ρ, R, w.bind.mono fun ds ρ1 w J H1 fr1 sb1 R1 it D hD => ?_⟩
  by_cases hf : ws.all (free md) = true
  case neg => rw [if_neg hf] at w; exact False.elim w
  rw [if_pos hf] at w
  have hf' : ∀ j ∈ ws, free md j = true := List.all_eq_true.mp hf
  have w := w.bind
  have Rw : RS G X.K md (wipe σ ws) (wipeS ws ρ1) H1 := R1.wipe hf'
  have D0 : G.H0 D = none := R1.thr D hD
  have nD : ∀ {ρx : Dn.Env} {σ' : St}, Sub (wipeS ws ρ1) ρx → σ' = wipe σ ws → ¬ Owned σ' ρx D := fun {ρx σ'} sb e q => by
    subst e
    exact Rw.fresh hD (sb.owned q)
  generalize hP : (fun (a : List PyData) (ρ' : Dn.Env) => Want (Res.ok (EV.fr (.list a)) (restore ws ρ1 ρ')) fun x ρ' => ∀ (v : V) (H' : Hp), Dn.Fr σ ρ H H' → Sub ρ ρ' → RS G X.K md σ ρ' H' → RepEV X.K σ H H' v x → Q v H') = P at w
  have hend : ∀ l ρx, P l ρx → ∀ v H', Dn.Fr σ ρ H H' → Sub ρ (restore ws ρ1 ρx) → RS G X.K md σ (restore ws ρ1 ρx) H' → RepEV X.K σ H H' v (.fr (.list l)) → Q v H' := fun l ρx p => by
    rw [← hP] at p; exact p
  clear hP
  refine ⟨fun i m Hx => ∃ ρx acc accV, i + m = ds.length ∧ RS G X.K md (wipe σ ws) ρx Hx ∧ Sub (wipeS ws ρ1) ρx ∧ Hx D = some (.lst accV) ∧ Reps X.K Hx accV acc ∧
      (∀ b u, H1 b = some u → ¬ Owned (wipe σ ws) (wipeS ws ρ1) b → Hx b = some u) ∧ (∀ b, Hx b = none → H1 b = none) ∧
      Want (compL (fun d ρ => on (assignT md mt d ρ) fun ρ => evalCs md modes call mcs ρ) (fun ρ => (evalE md modes call melt ρ).bind settle) (wipeS ws) (ds.drop i) acc ρx) P,
    ⟨ds.length, wipeS ws ρ1, [], [], by omega, Rw.grow (Ex.new hD), Sub.refl _, upd_same, .nil, fun b u h _ => Ex.new hD b u h, fun b h => ?_, w⟩, ?_⟩
  · by_cases z : b = D
    · rw [z]; exact hD
    · rw [upd_ne z] at h; exact h
  rintro i m Hx ⟨ρx, acc, accV, him, Rx, sbx, hxD, rx, kp, th, w⟩
  have x1 : Ext H1 Hx := (Rw.ext (H' := Hx) ⟨kp, th⟩)
  by_cases hi : i < ds.length
  · -- a turn
    have hd : ds[i]? = some ds[i] := List.getElem?_eq_getElem hi
    obtain ⟨go, yl⟩ := it.1 i _ Hx x1 hd
    rw [List.drop_eq_getElem_cons hi] at w
    have w : Want ((on (assignT md mt ds[i] ρx) fun ρ => evalCs md modes call mcs ρ).bind _) P := w
    have w := w.bind
    obtain ⟨ρ2, ea, w⟩ := Want.on w
    refine .inr ⟨go, fun H' => ∃ m', m' < m ∧ ∃ ρx acc accV, i + 1 + m' = ds.length ∧ RS G X.K md (wipe σ ws) ρx H' ∧ Sub (wipeS ws ρ1) ρx ∧ H' D = some (.lst accV) ∧ Reps X.K H' accV acc ∧
      (∀ b u, H1 b = some u → ¬ Owned (wipe σ ws) (wipeS ws ρ1) b → H' b = some u) ∧ (∀ b, H' b = none → H1 b = none) ∧
      Want (compL (fun d ρ => on (assignT md mt d ρ) fun ρ => evalCs md modes call mcs ρ) (fun ρ => (evalE md modes call melt ρ).bind settle) (wipeS ws) (ds.drop (i + 1)) acc ρx) P, fun H' ⟨m', a, b⟩ => ⟨m', a, b⟩, fun v H2 y => ?_⟩
    obtain ⟨ex, rv⟩ := yl v H2 y
    refine ⟨G, ρx, ds[i], ρ2, Rx.grow ex, rv, ea, fun σ2 R2 off own => ⟨?_, ?_⟩⟩
    · rw [wipe_off off hsub, wipe_wipe]
    have eσ : wipe σ2 ws = wipe σ ws := by rw [wipe_off off hsub, wipe_wipe]
    -- who is owned in the turn is owned ahead of it
    have ow : ∀ {b : Addr}, Owned σ2 ρ2 b → Owned (wipe σ ws) (wipeS ws ρ1) b := fun {b} ⟨j, d, h1, h2⟩ => by
      obtain ⟨n, h3⟩ := own j d h1
      rw [off.2 j n] at h2
      exact sbx.owned ⟨j, d, h3, h2⟩
    have nD2 : ¬ Owned σ2 ρ2 D := fun q => Rw.fresh hD (ow q)
    -- the new state behind the turn
    obtain ⟨al1, al2⟩ := assignT_off ea
    have subw : ∀ {ρ' : Dn.Env}, Sub ρ2 ρ' → Sub (wipeS ws ρ1) (wipeS ws ρ') := fun {ρ'} s => by
      have hl' : ρ'.length = ρ1.length := by rw [← s.1, al1, ← sbx.1, wipeS_length]
      refine ⟨by rw [wipeS_length, wipeS_length, hl'], fun j t h => ?_⟩
      by_cases z : j ∈ ws
      · rw [wipeS_in z] at h
        rw [wipeS_in z, ← hl']
        split at h
        · cases h; rename_i c; exact ⟨.un, if_pos c, .refl _⟩
        · cases h
      · rw [wipeS_out z] at h ⊢
        obtain ⟨t2, h1, h2⟩ := s.2 j t h
        rw [al2 j fun q => z (hsub j q)] at h1
        obtain ⟨t4, h5, h6⟩ := sbx.2 j t2 h1
        rw [wipeS_out z] at h5
        exact ⟨t4, h5, h6.trans h2⟩
    have kp2 : ∀ b u, H1 b = some u → ¬ Owned (wipe σ ws) (wipeS ws ρ1) b → H2 b = some u := fun b u h n => ex b u (kp b u h n)
    have th2 : ∀ b, H2 b = none → H1 b = none := fun b h => th b (by
      cases q : Hx b with
      | none => rfl
      | some u => rw [ex b u q] at h; cases h)
    have hD2 : H2 D = some (.lst accV) := ex D _ hxD
    have r2 : Reps X.K H2 accV acc := rx.mono ex.ext
    -- the tests
    refine ⟨G, ρ2, R2, w.mono fun k ρ3 w H3 fr3 sb3 R3 => ?_⟩
    have hD3 : H3 D = some (.lst accV) := fr3.1 D _ hD2 nD2
    have r3 : Reps X.K H3 accV acc := r2.mono (R2.ext fr3)
    cases k with
    | false =>
      refine iteF ?_
      have w : Want (compL _ _ (wipeS ws) (ds.drop (i + 1)) acc (wipeS ws ρ3)) P := w
      refine ⟨m - 1, by omega, wipeS ws ρ3, acc, accV, by omega, ?_, subw sb3, hD3, r3, fun b u h n => fr3.1 b u (kp2 b u h n) fun q => n (ow q), fun b h => th2 b (fr3.2 b h), w⟩
      rw [← eσ]; exact R3.wipe hf'
    | true =>
      refine iteT ?_
      have w : Want ((((evalE md modes call melt ρ3).bind settle)).bind fun y ρ => if acc.length < szl then compL _ _ (wipeS ws) (ds.drop (i + 1)) (acc ++ [y]) (wipeS ws ρ) else .stuck) P := w
      refine ⟨G, ρ3, R3, w.bind.mono fun y ρ4 w u H4 fr4 sb4 R4 rep4 => ?_⟩
      have nD3 : ¬ Owned σ2 ρ3 D := fun q => nD2 (sb3.owned q)
      have hD4 : H4 D = some (.lst accV) := fr4.1 D _ hD3 nD3
      have r4 : Reps X.K H4 accV acc := r3.mono (R3.ext fr4)
      by_cases hz : acc.length < szl
      case neg => rw [if_neg hz] at w; exact False.elim w
      rw [if_pos hz] at w
      have nD4 : ¬ Owned (wipe σ2 ws) (wipeS ws ρ4) D := fun q => nD3 (sb4.owned (owned_wipe q))
      have x5 : Ext H4 (upd H4 D (.lst (accV ++ [u]))) := ⟨fun b zs h => by rw [upd_ne (ne_of h hD4 (by simp))]; exact h, fun b o u h => by rw [upd_ne (ne_of h hD4 (by simp))]; exact h⟩
      refine ⟨accV, hD4, by rw [r4.length, ← szl_eq]; exact hz, m - 1, by omega, wipeS ws ρ4, acc ++ [y], accV ++ [u], by omega, ?_, subw (sb3.trans sb4), upd_same, (r4.append (.cons rep4 .nil)).mono x5, fun b t h n => ?_, fun b h => ?_, w⟩
      · rw [← eσ]; exact (R4.wipe hf').other nD4 D0 hD4
      · have ne : b ≠ D := fun z => by rw [z, hD] at h; cases h
        rw [upd_ne ne]
        exact fr4.1 b t (fr3.1 b t (kp2 b t h n) fun q => n (ow q)) fun q => n (ow (sb3.owned q))
      · by_cases z : b = D
        · rw [z]; exact hD
        · rw [upd_ne z] at h
          exact th2 b (fr3.2 b (fr4.2 b h))
  · -- the end
    have e : i = ds.length := by omega
    subst e
    rw [List.drop_length] at w
    refine .inl ⟨it.2 Hx x1, ?_⟩
    obtain ⟨fr2, sb2, R2⟩ := after_comp R1 hf' Rx sbx kp th
    exact hend acc ρx w _ Hx (fr1.trans sb1 fr2) (sb1.trans sb2) R2 ⟨D, rfl, fr1.2 D hD, D, accV, acc, rfl, rfl, hxD, rx⟩
variable {ws : List Nat} {mt : Tg} {mi : MI} {mcs : List ME} {melt : ME} {elt tg iter : Expr} {ifs : List Expr} {scope : Scope} {own : List (Str × Nat)} {pos : Pos}
/-- [elt for target in iter if ..] -/
theorem pd_lc (hsub : ∀ j ∈ mt.ix, j ∈ own.map (·.2)) (hc : X.calm = true) (hN : X.N.Nodup) (ok : BlkOk X.N X.env.scope scope own) (hi : ID md modes call X tg iter mi)
    (hg : ∀ (s : Shared) (H : Hp) (C : Addr) (cl : List (Str × Addr)) (fp : List Addr), GD md (X.blk s H scope (compEnvC scope cl C X.env) fp) tg mt)
    (ht : ∀ (s : Shared) (H : Hp) (C : Addr) (cl : List (Str × Addr)) (fp : List Addr), CD md modes call (X.blk s H scope (compEnvC scope cl C X.env) fp) ifs mcs)
    (he : ∀ (s : Shared) (H : Hp) (C : Addr) (cl : List (Str × Addr)) (fp : List Addr), PD md modes call (X.blk s H scope (compEnvC scope cl C X.env) fp) elt melt) (hs : ∀ x, foldedSetIterable iter X.env x = pure x := by intro _; rfl) :
    PD md modes call X (.ListComp elt [⟨tg, iter, ifs, 0⟩] scope pos) (.lc (own.map (·.2)) mt mi mcs melt) :=
  PE.imp (pe_lc (g := tGt X.K md mt) (tt := tTr X.K md (evalCs md modes call mcs)) (te := tV X.K md fun ρ => (evalE md modes call melt ρ).bind settle) hc hN hi ok hg ht (fun s H C cl fp => PE.toV (he s H C cl fp)) hs) fun σ H Q w => comp_red hsub w
end
end Dn
/-! Den11: statements -/
namespace Dn
open PySem PySem.Spec PyProof.Rows L2

def RepRet (G : Gh) (K : PySem.W.Frag) (σ : St) (H : Hp) (v : V) : EV → Prop
  | .val d => Rep K H v d
  | .fr d => RepO K H v d ∧ ∃ a, v = .ref a ∧ G.H0 a = none
  | .al i => σ[i]? = some (some v)
def FlP (G : Gh) (K : PySem.W.Frag) (md : List Bool) (H : Hp) (D : Ends) (fl : Fl) (ρ' : Env) : Prop := match fl with
  | .nx => ∀ σ' H', RS G K md σ' ρ' H' → Ext H H' → D.nx σ' H'
  | .brk => ∀ σ' H', RS G K md σ' ρ' H' → Ext H H' → D.bk σ' H'
  | .cnt => ∀ σ' H', RS G K md σ' ρ' H' → Ext H H' → D.ct σ' H'
  | .ret e => ∀ σ' v H', RS G K md σ' ρ' H' → RepRet G K σ' H' v e → D.rt v H'
theorem FlP.back {G : Gh} {K : PySem.W.Frag} {md : List Bool} {H H1 : Hp} {D : Ends} {fl : Fl} {ρ' : Env} (x : Ext H H1) (p : FlP G K md H D fl ρ') : FlP G K md H1 D fl ρ' := by
  cases fl with
  | nx => exact fun σ' H' R e => p σ' H' R (x.trans e)
  | brk => exact fun σ' H' R e => p σ' H' R (x.trans e)
  | cnt => exact fun σ' H' R e => p σ' H' R (x.trans e)
  | ret e => exact p
def tSt (K : PySem.W.Frag) (md : List Bool) (f : Env → Res Fl) : TS := fun D σ H => ∃ G ρ, RS G K md σ ρ H ∧ Want (f ρ) (FlP G K md H D)
section
variable (W : Nat) (md : List Bool) (modes : Nat → List Bool) (call : Calls)
def SD (X : Cx) (e : Stmt) (m : MS) : Prop := PS X e (tSt X.K md (execS W md modes call m))
def BD (X : Cx) (es : List Stmt) (ms : List MS) : Prop := PSs X es (tSt X.K md (execSs W md modes call ms))
end
/-- raw, a slot's list locked -/
theorem PE.toS {X : Cx} {e : Expr} {md : List Bool} {f : Env → Res EV} (h : PE X e (tE X.K md f)) : PE X e (tE X.K md fun ρ => (f ρ).bind still) := by
  refine PE.lock h fun σ H Q w => ?_
  obtain ⟨G, ρ, R, w⟩ := w
  refine ⟨G, ρ, R, w.bind.mono fun x ρ' q v H' fr sb R' rep => ?_⟩
  cases x with
  | val d => exact .inl ((show Aft G X.K md σ ρ H Q (.val d) ρ' from q) v H' fr sb R' rep)
  | fr d => exact .inl ((show Aft G X.K md σ ρ H Q (.fr d) ρ' from q) v H' fr sb R' rep)
  | al i =>
    have rep : σ[i]? = some (some v) := rep
    have q : Want ((match ρ'[i]? with
      | some (.val d) => Res.ok d ρ'
      | some (.own d) => .ok d (ρ'.set i (.val d))
      | _ => .stuck).bind fun d ρ => Res.ok (EV.val d) ρ) (Aft G X.K md σ ρ H Q) := q
    cases z : ρ'[i]? with
    | none => rw [z] at q; exact False.elim q
    | some s =>
      rw [z] at q
      cases s with
      | un => exact False.elim q
      | val d =>
        obtain ⟨v', h1, h2⟩ := R'.val i d z
        rw [rep] at h1; cases h1
        exact .inl (q v H' fr sb R' h2)
      | own d =>
        obtain ⟨a, xs, rfl, h4, ow, L⟩ := lock_slot R' z rep
        exact .inr ⟨a, xs, h4, fun o => q _ _ (fr.trans sb (L o).1) (sb.trans (Sub.set z (.lock _ _))) (L o).2.1 (L o).2.2⟩
section
variable {W : Nat} {md : List Bool} {modes : Nat → List Bool} {call : Calls} {X : Cx} {e a b c : Expr} {s : Stmt} {ss ss2 : List Stmt} {m ma mb mc : ME} {ms : MS} {mss mss2 : List MS} {pos : Pos}
/-! ### blocks -/
theorem bd_nil : BD W md modes call X [] [] := PSs.imp pss_nil fun D σ H ⟨G, ρ, R, w⟩ => w σ H R (Ext.refl H)
theorem bd_cons (h1 : SD W md modes call X s ms) (h2 : BD W md modes call X ss mss) : BD W md modes call X (s :: ss) (ms :: mss) := by
  refine PSs.imp (pss_cons h1 h2) fun D σ H ⟨G, ρ, R, w⟩ => ⟨G, ρ, R, Want.mono (Want.bind (show Want ((execS W md modes call ms ρ).bind fun f ρ => match f with
    | .nx => execSs W md modes call mss ρ
    | f => .ok f ρ) (FlP G X.K md H D) from w)) fun fl ρ1 w => ?_⟩
  cases fl with
  | nx => exact fun σ' H' R' x => ⟨G, ρ1, R', Want.mono (r := execSs W md modes call mss ρ1) w fun fl ρ2 p => p.back x⟩
  | brk => exact w
  | cnt => exact w
  | ret e => exact w
theorem sd_pass : SD W md modes call X (.Pass pos) .pass := PS.imp ps_pass fun D σ H ⟨G, ρ, R, w⟩ => w σ H R (Ext.refl H)
theorem sd_brk : SD W md modes call X (.Break pos) .brk := PS.imp ps_break fun D σ H ⟨G, ρ, R, w⟩ => w σ H R (Ext.refl H)
theorem sd_cont : SD W md modes call X (.Continue pos) .cont := PS.imp ps_continue fun D σ H ⟨G, ρ, R, w⟩ => w σ H R (Ext.refl H)
theorem sd_expr (h : PD md modes call X e m) (hs : swapsWith e none pos.line X.env = pure false) : SD W md modes call X (.Expr e pos) (.expr m) :=
  PS.imp (ps_expr h hs) fun D σ H ⟨G, ρ, R, w⟩ => ⟨G, ρ, R, Want.mono (Want.bind (show Want ((evalE md modes call m ρ).bind fun _ ρ => .ok .nx ρ) (FlP G X.K md H D) from w)) fun x ρ1 w v H1 fr sb R1 _ => w σ H1 R1 (R.ext fr)⟩
theorem sd_ret (h : PD md modes call X e m) : SD W md modes call X (.Return (some e) pos) (.ret m) := by
  refine PS.imp (ps_ret h) fun D σ H ⟨G, ρ, R, w⟩ => ⟨G, ρ, R, Want.mono (Want.bind (show Want ((evalE md modes call m ρ).bind fun x ρ => .ok (.ret x) ρ) (FlP G X.K md H D) from w)) fun x ρ1 w v H1 fr sb R1 rep => w σ v H1 R1 ?_⟩
  cases x with
  | val d => exact rep
  | fr d => obtain ⟨a, e1, hn, r⟩ := rep; exact ⟨r, a, e1, R.thr a hn⟩
  | al i => exact rep
theorem sd_ite (hc : TD md modes call X c mc) (ha : BD W md modes call X ss mss) (hb : BD W md modes call X ss2 mss2) : SD W md modes call X (.If c ss ss2 pos) (.ite mc mss mss2) := by
  refine PS.imp (ps_if hc ha hb) fun D σ H ⟨G, ρ, R, w⟩ => ⟨G, ρ, R, Want.mono (Want.bind (show Want ((evalT md modes call mc ρ).bind fun k ρ => if k = true then execSs W md modes call mss ρ else execSs W md modes call mss2 ρ) (FlP G X.K md H D) from w)) fun k ρ1 w H1 fr sb R1 => ?_⟩
  cases k with
  | true => exact iteT ⟨G, ρ1, R1, Want.mono (r := execSs W md modes call mss ρ1) w fun fl ρ2 p => p.back (R.ext fr)⟩
  | false => exact iteF ⟨G, ρ1, R1, Want.mono (r := execSs W md modes call mss2 ρ1) w fun fl ρ2 p => p.back (R.ext fr)⟩
/-! ### loops -/
theorem sd_while (hp : PassesOwn (model X.prog X.w) X.A X.env X.xe) (hc : TD md modes call X c mc) (hb : BD W md modes call X ss mss) : SD W md modes call X (.While c ss [] pos) (.while mc mss) := by
  refine PS.imp (ps_while hp hc hb) fun D σ H ⟨G, ρ, R, w⟩ => ?_
  have w : Want (whileL (evalT md modes call mc) (execSs W md modes call mss) W ρ) (FlP G X.K md H D) := w
  refine ⟨fun m σ' H' => ∃ ρ, RS G X.K md σ' ρ H' ∧ Ext H H' ∧ Want (whileL (evalT md modes call mc) (execSs W md modes call mss) m ρ) (FlP G X.K md H D), ⟨W, ρ, R, Ext.refl H, w⟩, ?_⟩
  rintro m σ1 H1 ⟨ρ1, R1, x1, w1⟩
  cases m with
  | zero => exact False.elim w1
  | succ m =>
    have w1 := Want.bind (show Want ((evalT md modes call mc ρ1).bind fun b ρ => if b = true then (execSs W md modes call mss ρ).bind fun f ρ => match f with
      | .nx => whileL (evalT md modes call mc) (execSs W md modes call mss) m ρ
      | .cnt => whileL (evalT md modes call mc) (execSs W md modes call mss) m ρ
      | .brk => .ok .nx ρ
      | .ret e => .ok (.ret e) ρ
      else .ok .nx ρ) (FlP G X.K md H D) from w1)
    refine ⟨G, ρ1, R1, w1.mono fun k ρ2 w2 H2 fr sb R2 => ?_⟩
    cases k with
    | false => exact iteF ((show FlP G X.K md H D .nx ρ2 from w2) σ1 H2 R2 (x1.trans (R1.ext fr)))
    | true =>
      refine iteT ⟨_, fun σ' H' n => ⟨m, Nat.lt_succ_self m, n⟩, G, ρ2, R2, Want.mono (Want.bind (r := execSs W md modes call mss ρ2) w2) fun fl ρ3 w3 => ?_⟩
      have x2 : Ext H H2 := x1.trans (R1.ext fr)
      cases fl with
      | nx => exact fun σ' H' R' x => ⟨ρ3, R', x2.trans x, w3⟩
      | cnt => exact fun σ' H' R' x => ⟨ρ3, R', x2.trans x, w3⟩
      | brk => exact fun σ' H' R' x => (show FlP G X.K md H D .nx ρ3 from w3) σ' H' R' (x2.trans x)
      | ret e => exact w3
theorem sd_for {tg : Expr} {mt : Tg} {mi : MI} (hp : PassesOwn (model X.prog X.w) X.A X.env X.xe) (hc : X.calm = true) (hi : ID md modes call X tg e mi) (hg : GD md X tg mt) (hb : BD W md modes call X ss mss) (hs : ∀ x, foldedSetIterable e X.env x = pure x := by intro _; rfl) :
    SD W md modes call X (.For tg e ss [] pos) (.for mt mi mss) := by
  refine PS.imp (ps_for hp hc hi hg hb hs) fun D σ H ⟨G, ρ, R, w⟩ => ?_
  have w := Want.bind (show Want ((evalI md modes call mi ρ).bind fun ds ρ => forL (assignT md mt) (execSs W md modes call mss) ds ρ) (FlP G X.K md H D) from w)
  refine ⟨G, ρ, R, w.mono fun ds ρ1 w J H1 fr1 sb1 R1 it => ?_⟩
  have x0 : Ext H H1 := R.ext fr1
  refine ⟨fun i m σ' H' => ∃ ρ, i + m = ds.length ∧ RS G X.K md σ' ρ H' ∧ Ext H1 H' ∧ Want (forL (assignT md mt) (execSs W md modes call mss) (ds.drop i) ρ) (FlP G X.K md H D), ⟨ds.length, ρ1, by omega, R1, Ext.refl H1, w⟩, ?_⟩
  rintro i m σ2 H2 ⟨ρ2, him, R2, x2, w2⟩
  by_cases hi : i < ds.length
  · have hd : ds[i]? = some ds[i] := List.getElem?_eq_getElem hi
    obtain ⟨go, yl⟩ := it.1 i _ H2 x2 hd
    rw [List.drop_eq_getElem_cons hi] at w2
    obtain ⟨ρ3, ea, w3⟩ := Want.on (show Want (on (assignT md mt ds[i] ρ2) fun ρ => (execSs W md modes call mss ρ).bind fun f ρ => match f with
      | .nx => forL (assignT md mt) (execSs W md modes call mss) (ds.drop (i + 1)) ρ
      | .cnt => forL (assignT md mt) (execSs W md modes call mss) (ds.drop (i + 1)) ρ
      | .brk => .ok .nx ρ
      | .ret e => .ok (.ret e) ρ) (FlP G X.K md H D) from w2)
    refine .inr ⟨go, _, fun σ' H' n => ⟨m - 1, by omega, n⟩, fun v H3 y => ?_⟩
    obtain ⟨ex, rv⟩ := yl v H3 y
    refine ⟨G, ρ2, ds[i], ρ3, R2.grow ex, rv, ea, fun σ3 R3 off own => ⟨G, ρ3, R3, Want.mono (Want.bind (r := execSs W md modes call mss ρ3) w3) fun fl ρ4 w4 => ?_⟩⟩
    have x3 : Ext H1 H3 := x2.trans ex.ext
    cases fl with
    | nx => exact fun σ' H' R' x => ⟨ρ4, by omega, R', x3.trans x, w4⟩
    | cnt => exact fun σ' H' R' x => ⟨ρ4, by omega, R', x3.trans x, w4⟩
    | brk => exact fun σ' H' R' x => (show FlP G X.K md H D .nx ρ4 from w4) σ' H' R' (x0.trans (x3.trans x))
    | ret e => exact w4
  · have e : i = ds.length := by omega
    subst e
    rw [List.drop_length] at w2
    exact .inl ⟨it.2 H2 x2, (show FlP G X.K md H D .nx ρ2 from w2) σ2 H2 R2 (x0.trans x2)⟩
end
end Dn
/-! Den12: stores, defs -/
namespace Dn
open PySem PySem.Spec PyProof.Rows L2

/-- a slot's own list changes -/
theorem upd_own {G : Gh} {K : PySem.W.Frag} {md : List Bool} {σ : St} {ρ : Env} {H : Hp} {i : Nat} {ds es : List PyData} {v : V} (R : RS G K md σ ρ H) (h : ρ[i]? = some (.own (.list ds))) (hv : σ[i]? = some (some v)) :
    ∃ a xs, v = .ref a ∧ H a = some (.lst xs) ∧ Reps K H xs ds ∧ ∀ ys, Reps K H ys es → Dn.Fr σ ρ H (upd H a (.lst ys)) ∧ Sub ρ (ρ.set i (.own (.list es))) ∧ RS G K md σ (ρ.set i (.own (.list es))) (upd H a (.lst ys)) := by
  obtain ⟨v', h1, a, xs, ds', e1, e2, h4, r⟩ := R.own i _ h
  rw [hv] at h1; cases h1
  subst e1
  cases e2
  have ow : Owned σ ρ a := ⟨i, _, h, hv⟩
  have hi : i < ρ.length := (List.getElem?_eq_some_iff.mp h).1
  have sub : Sub ρ (ρ.set i (.own (.list es))) := Sub.set h (.own _ _)
  refine ⟨a, xs, rfl, h4, r, fun ys rys => ?_⟩
  have fr : Dn.Fr σ ρ H (upd H a (.lst ys)) := ⟨fun b u e n => by
    rw [upd_ne (fun q => n (by rw [q]; exact ow))]; exact e, fun b e => by
    by_cases z : b = a
    · subst z; rw [upd_same] at e; cases e
    · rw [upd_ne z] at e; exact e⟩
  have x := R.ext fr
  refine ⟨fr, sub, ⟨by rw [List.length_set]; exact R.len, fun j e q => ?_, fun j e q => ?_, fun j k b e f p q => ?_, fun j b e p q => ?_, fun b q => R.thr b (fr.2 b q), fun b u q n => ?_, R.fix⟩⟩
  · by_cases hj : i = j
    · subst hj
      rw [List.getElem?_set_self hi] at q
      cases q
    · rw [List.getElem?_set_ne hj] at q
      obtain ⟨w, q1, q2⟩ := R.val j e q
      exact ⟨w, q1, q2.mono x⟩
  · by_cases hj : i = j
    · subst hj
      rw [List.getElem?_set_self hi] at q
      cases q
      exact ⟨_, hv, a, ys, es, rfl, rfl, upd_same, rys.mono x⟩
    · rw [List.getElem?_set_ne hj] at q
      obtain ⟨w, q1, b, zs, es', f1, f2, q4, q5⟩ := R.own j e q
      subst f1
      have ne : b ≠ a := fun z => hj (R.dis i j a _ _ h q hv (by rw [q1, z]))
      exact ⟨_, q1, b, zs, es', rfl, f2, by rw [upd_ne ne]; exact q4, q5.mono x⟩
  · obtain ⟨_, p'⟩ := sub.own p
    obtain ⟨_, q'⟩ := sub.own q
    exact R.dis j k b _ _ p' q'
  · obtain ⟨_, p'⟩ := sub.own p
    exact R.adr j b _ p' q
  · have q' := R.keep b u q n
    by_cases z : b = a
    · subst z
      rcases R.adr' ow with y | y
      · exact absurd y n
      · rw [q] at y; cases y
    · rw [upd_ne z]; exact q'
theorem RepEV.step {G : Gh} {K : PySem.W.Frag} {md : List Bool} {σ : St} {ρ : Env} {H0 H H' : Hp} {v : V} {x : EV} (R : RS G K md σ ρ H) (hf : ∀ b, H0 b = none → Owned σ ρ b → False) (f : Dn.Fr σ ρ H H') (h : RepEV K σ H0 H v x) : RepEV K σ H0 H' v x := by
  cases x with
  | val d => exact Rep.mono (R.ext f) h
  | fr d =>
    obtain ⟨a, e, n, b, xs, ds, e1, e2, h4, r⟩ := h
    subst e
    cases e1
    exact ⟨a, rfl, n, a, xs, ds, rfl, e2, f.1 a _ h4 (hf a n), r.mono (R.ext f)⟩
  | al i => exact h
/-- a raw value into a slot -/
theorem put_ok {G : Gh} {K : PySem.W.Frag} {md : List Bool} {σ : St} {ρ ρ' : Env} {H0 H : Hp} {i : Nat} {v : V} {x : EV} {u : Unit} (R : RS G K md σ ρ H) (hf : free md i = true) (hw : ∀ b, H0 b = none → Owned σ ρ b → False) (h0 : ∀ b, H0 b = none → G.H0 b = none) (h : RepEV K σ H0 H v x) (e : putS i x ρ = .ok u ρ') :
    RS G K md (σ.set i (some v)) ρ' H := by
  cases x with
  | val d => cases e; exact R.putVal hf h
  | fr d =>
    cases e
    obtain ⟨a, e1, n, r⟩ := h
    refine R.put hf (fun d' e => by cases e) fun d' e => ?_
    cases e
    exact ⟨r, fun b e => by rw [e1] at e; cases e; exact ⟨fun q => hw a n q, h0 a n⟩⟩
  | al j => cases e
section
variable {W : Nat} {md : List Bool} {modes : Nat → List Bool} {call : Calls} {X : Cx} {e a b c k : Expr} {m ma mb mk : ME} {pos p1 p2 p3 : Pos} {x y : Str}
theorem set_red {i : Nat} {f : Dn.Env → Res EV} {D : Ends} {σ : L2.St} {H : Hp} (w : ∃ G ρ, RS G X.K md σ ρ H ∧ Want (if free md i = true then ((f ρ).bind still).bind fun x ρ => (putS i x ρ).bind fun _ ρ => .ok .nx ρ else .stuck) (FlP G X.K md H D)) :
    tAsg (tE X.K md fun ρ => (f ρ).bind still) (gName i) D σ H := by
  obtain ⟨G, ρ, R, w⟩ := w
  by_cases hf : free md i = true
  case neg => rw [if_neg hf] at w; exact False.elim w
  rw [if_pos hf] at w
  refine ⟨G, ρ, R, w.bind.mono fun x ρ1 w v H1 fr sb R1 rep => ?_⟩
  have hw : ∀ b, H b = none → Owned σ ρ1 b → False := fun b n q => R.fresh n (sb.owned q)
  cases z : putS i x ρ1 with
  | exc x ρ => rw [z] at w; exact False.elim w
  | stuck => rw [z] at w; exact False.elim w
  | ok u ρ2 =>
    rw [z] at w
    exact (show FlP G X.K md H D .nx ρ2 from w) _ H1 (put_ok R1 hf hw R.thr rep z) (R.ext fr)
/-- name = value -/
theorem sd_set (i : Nat) (hN : X.N.Nodup) (hi : X.N[i]? = some x) (hx : Loc X.env.scope x) (he : PD md modes call X e m) (hs : swapsWith e (some (.Name x p1)) pos.line X.env = pure false) (hf : X.fn x = true ∨ X.env.scope.names.lookup x = some .local) :
    SD W md modes call X (.Assign [.Name x p1] e pos) (.set i m) :=
  PS.imp (ps_set hN hi hx (PE.toS he) hs hf) fun D σ H w => set_red w
/-- name = [.. for ..] on one line -/
theorem sd_setLc {i : Nat} {ws : List Nat} {mt : Tg} {mi : MI} {mcs : List ME} {melt : ME} {elt tg iter : Expr} {ifs : List Expr} {scope : Scope} {own : List (Str × Nat)} (hws : own.map (·.2) = ws) (hsub : ∀ j ∈ mt.ix, j ∈ ws) (hc : X.calm = true) (hN : X.N.Nodup) (hy : X.N[i]? = some y) (hyl : X.env.scope.names.lookup y = some .local)
    (hsw : swapsWith (.ListComp elt [⟨tg, iter, ifs, 0⟩] scope pos) (some (.Name y p1)) p2.line X.env = pure true) (ok : BlkOk X.N X.env.scope scope own) (hi : ID md modes call X tg iter mi)
    (hg : ∀ (s : Shared) (H : Hp) (C : Addr) (cl : List (Str × Addr)) (fp : List Addr), GD md (X.blk s H scope (compEnvC scope cl C X.env) fp) tg mt)
    (ht : ∀ (s : Shared) (H : Hp) (C : Addr) (cl : List (Str × Addr)) (fp : List Addr), CD md modes call (X.blk s H scope (compEnvC scope cl C X.env) fp) ifs mcs)
    (he : ∀ (s : Shared) (H : Hp) (C : Addr) (cl : List (Str × Addr)) (fp : List Addr), PD md modes call (X.blk s H scope (compEnvC scope cl C X.env) fp) elt melt) (hs : ∀ x, foldedSetIterable iter X.env x = pure x := by intro _; rfl) :
    SD W md modes call X (.Assign [.Name y p1] (.ListComp elt [⟨tg, iter, ifs, 0⟩] scope pos) p2) (.set i (.lc ws mt mi mcs melt)) := by
  subst hws
  refine PS.imp (ps_setLc (g := tGt X.K md mt) (tt := tTr X.K md (evalCs md modes call mcs)) (te := tV X.K md fun ρ => (evalE md modes call melt ρ).bind settle) hc hN hy hyl hsw hi ok hg ht (fun s H C cl fp => PE.toV (he s H C cl fp)) hs) fun D σ H w => ?_
  -- a comprehension hands back a new list: nothing waits
  have red := set_red (X := X) (md := md) (i := i) (f := evalE md modes call (.lc (own.map fun (x : Str × Nat) => x.2) mt mi mcs melt)) (D := D) (σ := σ) (H := H) w
  refine comp_red hsub ?_
  obtain ⟨G, ρ, R, w⟩ := red
  refine ⟨G, ρ, R, ?_⟩
  have w : Want ((evalE md modes call (.lc (own.map (·.2)) mt mi mcs melt) ρ).bind still) _ := w
  cases z : evalE md modes call (.lc (own.map (·.2)) mt mi mcs melt) ρ with
  | exc x ρ1 => rw [z] at w; exact False.elim w
  | stuck => rw [z] at w; exact False.elim w
  | ok x ρ1 =>
    rw [z] at w
    obtain ⟨ds, ρ2, _, z⟩ := bind_inv z
    by_cases hf : (own.map (·.2)).all (free md) = true
    case neg => rw [if_neg hf] at z; cases z
    rw [if_pos hf] at z
    obtain ⟨l, ρ3, _, z⟩ := bind_inv z
    cases z
    exact w
/-- a, b = value -/
theorem sd_unpack {is : List Nat} {es : List Expr} {kk : Nat} (he : PD md modes call X e m) (hg : GD md X (.Tuple es kk p1) (.t is)) (hs : swapsWithSole [.Tuple es kk p1] e pos.line X.env = pure false) (hw : swappedStores [.Tuple es kk p1] e X.env = pure none)
    (h1 : (assignEach [.Tuple es kk p1] X.env).map (·.2) = [assign (.Tuple es kk p1) X.env] := by rfl) : SD W md modes call X (.Assign [.Tuple es kk p1] e pos) (.unpack is m) := by
  refine PS.imp (ps_asg (PE.toV he) hg hs hw h1) fun D σ H ⟨G, ρ, R, w⟩ => ⟨G, ρ, R, Want.mono (Want.bind (show Want (((evalE md modes call m ρ).bind settle).bind fun d ρ => on (assignT md (.t is) d ρ) fun ρ => .ok .nx ρ) (FlP G X.K md H D) from w)) fun d ρ1 w v H1 fr sb R1 rep => ?_⟩
  obtain ⟨ρ2, ea, w⟩ := Want.on w
  exact ⟨G, ρ1, d, ρ2, R1, rep, ea, fun σ' R' _ _ => (show FlP G X.K md H D .nx ρ2 from w) σ' H1 R' (R.ext fr)⟩
/-- a, b = value, value -/
theorem sd_par (i j : Nat) {kt k2 : Nat} {px py pt pt2 : Pos} (hc : X.calm = true) (hN : X.N.Nodup) (hi : X.N[i]? = some x) (hj : X.N[j]? = some y) (hij : i ≠ j) (hx : X.env.scope.names.lookup x = some .local) (hy : X.env.scope.names.lookup y = some .local) (ha : PD md modes call X a ma) (hb : PD md modes call X b mb)
    (hw : swappedStores [.Tuple [.Name x px, .Name y py] kt pt] (.Tuple [a, b] k2 pt2) X.env = pure (some [x, y])) (hs : swapsWithSole [.Tuple [.Name x px, .Name y py] kt pt] (.Tuple [a, b] k2 pt2) pos.line X.env = pure false)
    (h1 : starEach [a, b] X.env = (false, eval a X.env) :: starEach [b] X.env := by rfl) (h2 : starEach [b] X.env = (false, eval b X.env) :: starEach [] X.env := by rfl) :
    SD W md modes call X (.Assign [.Tuple [.Name x px, .Name y py] kt pt] (.Tuple [a, b] k2 pt2) pos) (.par i j ma mb) := by
  refine PS.imp (ps_par hc hN hi hj hij hx hy (pa_cons (PE.toS ha) (pa_cons (PE.toS hb) pa_nil h2) h1) hw hs) fun D σ H ⟨G, ρ, R, w⟩ => ?_
  have w : Want (if free md i = true ∧ free md j = true then ((evalE md modes call ma ρ).bind still).bind fun x ρ => ((evalE md modes call mb ρ).bind still).bind fun y ρ =>
      (putS i x ρ).bind fun _ ρ => (putS j y ρ).bind fun _ ρ => .ok .nx ρ
    else .stuck) (FlP G X.K md H D) := w
  by_cases hf : free md i = true ∧ free md j = true
  case neg => rw [if_neg hf] at w; exact False.elim w
  rw [if_pos hf] at w
  refine ⟨G, ρ, R, w.bind.mono fun x1 ρ1 w v1 H1 fr1 sb1 R1 rep1 => ⟨G, ρ1, R1, w.bind.mono fun x2 ρ2 w v2 H2 fr2 sb2 R2 rep2 => ⟨v1, v2, rfl, ?_⟩⟩⟩
  have hw1 : ∀ b, H b = none → Owned σ ρ1 b → False := fun b n q => R.fresh n (sb1.owned q)
  have hw2 : ∀ b, H b = none → Owned σ ρ2 b → False := fun b n q => hw1 b n (sb2.owned q)
  have rep1' : RepEV X.K σ H H2 v1 x1 := rep1.step R1 hw1 fr2
  cases z : putS i x1 ρ2 with
  | exc x ρ => rw [z] at w; exact False.elim w
  | stuck => rw [z] at w; exact False.elim w
  | ok u ρ3 =>
    rw [z] at w
    have R3 := put_ok R2 hf.1 hw2 R.thr rep1' z
    have w : Want ((putS j x2 ρ3).bind fun _ ρ => .ok .nx ρ) (FlP G X.K md H D) := w
    cases z2 : putS j x2 ρ3 with
    | exc x ρ => rw [z2] at w; exact False.elim w
    | stuck => rw [z2] at w; exact False.elim w
    | ok u ρ4 =>
      rw [z2] at w
      have hne : (∀ j', x2 ≠ .al j') := fun j' q => by rw [q] at z2; cases z2
      have rep2' : RepEV X.K (σ.set i (some v1)) H1 H2 v2 x2 := by
        cases x2 with
        | val d => exact rep2
        | fr d => exact rep2
        | al j' => exact absurd rfl (hne j')
      have hw3 : ∀ b, H1 b = none → Owned (σ.set i (some v1)) ρ3 b → False := fun b n q => by
        have nb : ¬ Owned σ ρ2 b := fun q => by
          have q' := sb2.owned q
          exact R1.fresh n q'
        obtain ⟨l, d, q1, q2⟩ := q
        by_cases hl : i = l
        · subst hl
          cases x1 with
          | val d' =>
            cases z
            by_cases hlt : i < ρ2.length
            · rw [List.getElem?_set_self hlt] at q1; cases q1
            · rw [List.getElem?_eq_none (by rw [List.length_set]; omega)] at q1; cases q1
          | fr d' =>
            cases z
            obtain ⟨a1, ea, _, b1, xs, ds, eb, _, h4, _⟩ := rep1
            by_cases hlt : i < σ.length
            · rw [List.getElem?_set_self hlt] at q2
              cases q2
              cases eb
              rw [n] at h4; cases h4
            · rw [List.getElem?_eq_none (by rw [List.length_set]; omega)] at q2; cases q2
          | al j' => cases z
        · rw [List.getElem?_set_ne hl] at q2
          refine nb ⟨l, d, ?_, q2⟩
          cases x1 with
          | val d' => cases z; rw [List.getElem?_set_ne hl] at q1; exact q1
          | fr d' => cases z; rw [List.getElem?_set_ne hl] at q1; exact q1
          | al j' => cases z
      have R4 := put_ok R3 hf.2 hw3 R1.thr rep2' z2
      exact (show FlP G X.K md H D .nx ρ4 from w) _ H2 R4 ((R.ext fr1).trans (R1.ext fr2))
/-- name op= value, ints and texts -/
def rAug (K : PySem.W.Frag) (o : BOp) : R2 := fun x y H Q => ∃ dx dy r, RdD K H x dx ∧ RdD K H y dy ∧ augD o dx dy = some r ∧ ∀ v, Rep K H v r → Q v H
theorem ip_aug (o : BOp) : PIp X (bop o) (rAug X.K o) := by
  intro pins s σ H x y v u Q I rx ry h
  obtain ⟨dx, dy, r, hx, hy, e, q⟩ := h
  cases o with
  | add =>
    cases dx with
    | int i =>
      cases dy with
      | int j => cases e; cases hx; cases hy; exact iop_add pins s σ H _ _ v u Q I rx ry ⟨i, j, rfl, rfl, q _ (.int _)⟩
      | _ => cases e
    | str i =>
      cases dy with
      | str j =>
        by_cases hz : i.length + j.length ≤ szl
        · have e' : some (PyData.str (i ++ j)) = some r := by rw [← e]; exact (if_pos hz).symm
          cases e'; cases hx; cases hy
          exact iop_add_str pins s σ H _ _ v u Q I rx ry ⟨i, j, rfl, rfl, by rw [← szl_eq]; exact hz, q _ (.str _)⟩
        · have e' : none = some r := by rw [← e]; exact (if_neg hz).symm
          cases e'
      | _ => cases e
    | _ => cases dy <;> cases e
  | sub =>
    cases dx with
    | int i =>
      cases dy with
      | int j => cases e; cases hx; cases hy; exact iop_sub pins s σ H _ _ v u Q I rx ry ⟨i, j, rfl, rfl, q _ (.int _)⟩
      | _ => cases e
    | _ => cases dy <;> cases e
  | mul =>
    cases dx with
    | int i =>
      cases dy with
      | int j =>
        by_cases hz : (-(2 ^ 64) < i ∧ i < 2 ^ 64) ∨ (-(2 ^ 64) < j ∧ j < 2 ^ 64)
        · have e' : some (PyData.int (i * j)) = some r := by rw [← e]; exact (if_pos hz).symm
          cases e'; cases hx; cases hy
          exact iop_mul pins s σ H _ _ v u Q I rx ry ⟨i, j, rfl, rfl, hz, q _ (.int _)⟩
        · have e' : none = some r := by rw [← e]; exact (if_neg hz).symm
          cases e'
      | _ => cases e
    | _ => cases dy <;> cases e
  | fdiv =>
    cases dx with
    | int i =>
      cases dy with
      | int j =>
        by_cases hz : 0 < j ∧ j < 1073741824
        · have e' : some (PyData.int (i / j)) = some r := by rw [← e]; exact (if_pos hz).symm
          cases e'; cases hx; cases hy
          exact iop_fdiv pins s σ H _ _ v u Q I rx ry ⟨i, j, rfl, rfl, hz, q _ (.int _)⟩
        · have e' : none = some r := by rw [← e]; exact (if_neg hz).symm
          cases e'
      | _ => cases e
    | _ => cases dy <;> cases e
  | mod =>
    cases dx with
    | int i =>
      cases dy with
      | int j =>
        by_cases hz : 0 < j
        · have e' : some (PyData.int (i % j)) = some r := by rw [← e]; exact (if_pos hz).symm
          cases e'; cases hx; cases hy
          exact iop_mod pins s σ H _ _ v u Q I rx ry ⟨i, j, rfl, rfl, hz, q _ (.int _)⟩
        · have e' : none = some r := by rw [← e]; exact (if_neg hz).symm
          cases e'
      | _ => cases e
    | _ => cases dy <;> cases e
  | pow => cases dx <;> cases dy <;> cases e
theorem sd_aug (i : Nat) (o : BOp) (hN : X.N.Nodup) (hi : X.N[i]? = some x) (hx : Loc X.env.scope x) (he : PD md modes call X e m) (hf : X.fn x = true ∨ X.env.scope.names.lookup x = some .local) : SD W md modes call X (.AugAssign (.Name x p1) (bop o) e pos) (.aug i o m) := by
  refine PS.imp (ps_aug hN hi hx (PE.toV he) (ip_aug o) hf) fun D σ H ⟨G, ρ, R, w⟩ => ?_
  have w : Want (if free md i = true then match ρ[i]? with
    | some (.val x) => ((evalE md modes call m ρ).bind settle).bind fun y ρ => on (augD o x y) fun z => .ok .nx (ρ.set i (.val z))
    | _ => .stuck
    else .stuck) (FlP G X.K md H D) := w
  by_cases hf : free md i = true
  case neg => rw [if_neg hf] at w; exact False.elim w
  rw [if_pos hf] at w
  cases z : ρ[i]? with
  | none => rw [z] at w; exact False.elim w
  | some t =>
    rw [z] at w
    cases t with
    | val d =>
      obtain ⟨v, h1, h2⟩ := R.val i d z
      refine ⟨v, h1, G, ρ, R, w.bind.mono fun d2 ρ1 w u H1 fr sb R1 rep => ?_⟩
      obtain ⟨r, e1, w⟩ := Want.on w
      exact ⟨d, d2, r, (h2.mono (R.ext fr)).rd, rep.rd, e1, fun v' rv => (show FlP G X.K md H D .nx (ρ1.set i (.val r)) from w) _ H1 (R1.putVal hf rv) (R.ext fr)⟩
    | _ => exact False.elim w
theorem own_there {G : Gh} {K : PySem.W.Frag} {σ : St} {ρ : Dn.Env} {H : Hp} {i : Nat} (R : RS G K md σ ρ H) (h : isOwn ρ i = true) : ∃ v, σ[i]? = some (some v) := by
  unfold isOwn at h
  split at h
  · rename_i d e
    obtain ⟨v, h1, _⟩ := R.own i d e
    exact ⟨v, h1⟩
  · cases h
/-- name[k] = value -/
theorem sd_put (i : Nat) (hi : X.N[i]? = some x) (hx : Vis X.env.scope x) (he : PD md modes call X e m) (hk : PD md modes call X k mk) (hs : swapsWithSole [.Subscript (.Name x p1) k p2] e pos.line X.env = pure false) (hw : swappedStores [.Subscript (.Name x p1) k p2] e X.env = pure none)
    (ha : ∀ v, assign (.Subscript (.Name x p1) k p2) X.env v = (do
      let ov ← holding [v] (eval (.Name x p1) X.env)
      let iv ← holding [v, ov] (eval k X.env)
      standAt p2
      holding [v, ov, iv] (setItem ov iv v)
      release [v, ov, iv] []) := by intro _; rfl)
    (h1 : (assignEach [.Subscript (.Name x p1) k p2] X.env).map (·.2) = [assign (.Subscript (.Name x p1) k p2) X.env] := by rfl) (hd : (x == ("__debug__" : Str)) = false := by decide) (hcd : (x == ("__classdict__" : Str)) = false := by decide) : SD W md modes call X (.Assign [.Subscript (.Name x p1) k p2] e pos) (.put i mk m) := by
  refine PS.imp (ps_asg (PE.toV he) (pg_sub (pe_var hi hx hd hcd) (PE.toV hk) set_list ha) hs hw h1) fun D σ H ⟨G, ρ, R, w⟩ => ?_
  have w : Want (((evalE md modes call m ρ).bind settle).bind fun d ρ => if isOwn ρ i = true then ((evalE md modes call mk ρ).bind settle).bind fun n ρ => match n, ρ[i]? with
    | .int n, some (.own (.list l)) => on (L2.ixN l.length n) fun j => .ok .nx (ρ.set i (.own (.list (l.set j d))))
    | _, _ => .stuck
    else .stuck) (FlP G X.K md H D) := w
  refine ⟨G, ρ, R, w.bind.mono fun d ρ1 w v H1 fr1 sb1 R1 rep1 => ?_⟩
  by_cases ho : isOwn ρ1 i = true
  case neg => rw [if_neg ho] at w; exact False.elim w
  rw [if_pos ho] at w
  obtain ⟨v0, hv⟩ := own_there R1 ho
  refine ⟨v0, hv, G, ρ1, R1, w.bind.mono fun n ρ2 w u H2 fr2 sb2 R2 rep2 => ?_⟩
  cases n with
  | int n =>
    cases rep2
    cases zi : ρ2[i]? with
    | none => simp only [zi] at w; exact False.elim w
    | some t =>
      cases t with
      | own d2 =>
        cases d2 with
        | list l =>
          simp only [zi] at w
          obtain ⟨j, ej, w⟩ := Want.on w
          obtain ⟨p, xs, rfl, hp, rxs, U⟩ := upd_own (es := l.set j d) R2 zi hv
          obtain ⟨fr3, sb3, R3⟩ := U (xs.set j v) (rxs.set j (rep1.mono (R1.ext fr2)))
          refine ⟨p, xs, n, j, rfl, rfl, hp, by rw [rxs.length]; exact ej, ?_⟩
          exact (show FlP G X.K md H D .nx _ from w) σ _ R3 ((R.ext fr1).trans ((R1.ext fr2).trans (R2.ext fr3)))
        | _ => simp only [zi] at w; exact False.elim w
      | _ => simp only [zi] at w; exact False.elim w
  | _ => exact False.elim w
theorem tyv_own {G : Gh} {σ : St} {ρ : Dn.Env} {H : Hp} {i : Nat} (R : RS G X.K md σ ρ H) (h : isOwn ρ i = true) : ∃ v, σ[i]? = some (some v) ∧ tyV X.K "list" v H := by
  unfold isOwn at h
  split at h
  · rename_i d e
    obtain ⟨v, h1, a, xs, ds, rfl, _, h4, _⟩ := R.own i d e
    exact ⟨_, h1, .inl ⟨rfl, xs, SqL.of h4⟩⟩
  · cases h
/-- name.append(value) -/
theorem sd_app (i : Nat) {apos : Pos} (hi : X.N[i]? = some x) (hx : Vis X.env.scope x) (he : PD md modes call X e m) (hs : swapsWith (.Call (.Attribute (.Name x p1) "append" apos) [e] [] p2) none pos.line X.env = pure false)
    (hbase : attributeBase (.Name x p1) "append" X.env (eval (.Name x p1) X.env) = eval (.Name x p1) X.env := by rfl)
    (hfew : ((backTo p2 (starEach [e] X.env)).all (fun x => !x.1) && (backToKw p2 (keywordEach [] X.env)).all (fun x => x.1.isSome)
      && decide ([e].length + ([] : List Keyword).length + (if ([] : List Keyword).isEmpty then 0 else 1) < 30)) = true := by rfl)
    (hline : (apos.endLine == p2.line) = true := by rfl) (h1 : starEach [e] X.env = (false, eval e X.env) :: starEach [] X.env := by rfl) (hplain : (backTo p2 (starEach [] X.env)).any (·.1) = false := by rfl) (hd : (x == ("__debug__" : Str)) = false := by decide) (hcd : (x == ("__classdict__" : Str)) = false := by decide) :
    SD W md modes call X (.Expr (.Call (.Attribute (.Name x p1) "append" apos) [e] [] p2) pos) (.app i m) := by
  refine PS.imp (ps_expr (pe_bm PySem.F.plainAttrs_list PySem.F.slot_list_append PySem.F.type_list_append mt_append (pe_var hi hx hd hcd) (pa_cons (PE.toV he) pa_nil h1) hbase hfew hline h1 hplain) hs) fun D σ H ⟨G, ρ, R, w⟩ => ?_
  have w : Want (if isOwn ρ i = true then ((evalE md modes call m ρ).bind settle).bind fun d ρ => match ρ[i]? with
    | some (.own (.list l)) => if l.length < szl then .ok .nx (ρ.set i (.own (.list (l ++ [d])))) else .stuck
    | _ => .stuck
    else .stuck) (FlP G X.K md H D) := w
  by_cases ho : isOwn ρ i = true
  case neg => rw [if_neg ho] at w; exact False.elim w
  rw [if_pos ho] at w
  obtain ⟨v0, hv, ty⟩ := tyv_own R ho
  refine ⟨v0, hv, ty, G, ρ, R, w.bind.mono fun d ρ1 w v H1 fr1 sb1 R1 rep1 => ?_⟩
  cases zi : ρ1[i]? with
  | none => simp only [zi] at w; exact False.elim w
  | some t =>
    cases t with
    | own d2 =>
      cases d2 with
      | list l =>
        simp only [zi] at w
        by_cases hz : l.length < szl
        case neg => rw [if_neg hz] at w; exact False.elim w
        rw [if_pos hz] at w
        obtain ⟨p, xs, rfl, hp, rxs, U⟩ := upd_own (es := l ++ [d]) R1 zi hv
        obtain ⟨fr3, sb3, R3⟩ := U (xs ++ [v]) (rxs.append (.cons rep1 .nil))
        exact ⟨p, xs, v, rfl, rfl, hp, by rw [rxs.length, ← szl_eq]; exact hz, (show FlP G X.K md H D .nx _ from w) σ _ R3 ((R.ext fr1).trans (R1.ext fr3))⟩
      | _ => simp only [zi] at w; exact False.elim w
    | _ => simp only [zi] at w; exact False.elim w
/-- name.pop() -/
theorem pd_pop (i : Nat) {apos : Pos} (hi : X.N[i]? = some x) (hx : Vis X.env.scope x) (hbase : attributeBase (.Name x p1) "pop" X.env (eval (.Name x p1) X.env) = eval (.Name x p1) X.env := by rfl) (hline : (apos.endLine == p2.line) = true := by rfl)
    (hd : (x == ("__debug__" : Str)) = false := by decide) (hcd : (x == ("__classdict__" : Str)) = false := by decide) : PD md modes call X (.Call (.Attribute (.Name x p1) "pop" apos) [] [] p2) (.pop i) := by
  refine PE.imp (pe_bm0 PySem.F.plainAttrs_list PySem.F.slot_list_pop PySem.F.type_list_pop mt_pop (pe_var hi hx hd hcd) hbase hline) fun σ H Q ⟨G, ρ, R, w⟩ => ?_
  have w : Want (match ρ[i]? with
    | some (.own (.list l)) => on l.getLast? fun d => .ok (.val d) (ρ.set i (.own (.list l.dropLast)))
    | _ => .stuck) (Aft G X.K md σ ρ H Q) := w
  cases zi : ρ[i]? with
  | none => simp only [zi] at w; exact False.elim w
  | some t =>
    cases t with
    | own d2 =>
      cases d2 with
      | list l =>
        simp only [zi] at w
        obtain ⟨d, ed, w⟩ := Want.on w
        obtain ⟨v0, hv, _⟩ := R.own i _ zi
        obtain ⟨p, xs, rfl, hp, rxs, U⟩ := upd_own (es := l.dropLast) R zi hv
        obtain ⟨fr3, sb3, R3⟩ := U xs.dropLast rxs.dropLast
        rw [List.getLast?_eq_getElem?] at ed
        obtain ⟨u, hu, ru⟩ := rxs.get ed
        refine ⟨_, hv, .inl ⟨rfl, xs, SqL.of hp⟩, p, xs, u, rfl, rfl, hp, by rw [rxs.length]; exact hu, ?_⟩
        exact (show Aft G X.K md σ ρ H Q (.val d) _ from w) u _ fr3 sb3 R3 (ru.mono (R.ext fr3))
      | _ => simp only [zi] at w; exact False.elim w
    | _ => simp only [zi] at w; exact False.elim w
/-- name.pop(place) -/
theorem pd_popAt (i : Nat) {apos : Pos} (hi : X.N[i]? = some x) (hx : Vis X.env.scope x) (he : PD md modes call X e m) (hbase : attributeBase (.Name x p1) "pop" X.env (eval (.Name x p1) X.env) = eval (.Name x p1) X.env := by rfl)
    (hfew : ((backTo p2 (starEach [e] X.env)).all (fun x => !x.1) && (backToKw p2 (keywordEach [] X.env)).all (fun x => x.1.isSome)
      && decide ([e].length + ([] : List Keyword).length + (if ([] : List Keyword).isEmpty then 0 else 1) < 30)) = true := by rfl)
    (hline : (apos.endLine == p2.line) = true := by rfl) (h1 : starEach [e] X.env = (false, eval e X.env) :: starEach [] X.env := by rfl) (hplain : (backTo p2 (starEach [] X.env)).any (·.1) = false := by rfl) (hd : (x == ("__debug__" : Str)) = false := by decide) (hcd : (x == ("__classdict__" : Str)) = false := by decide) :
    PD md modes call X (.Call (.Attribute (.Name x p1) "pop" apos) [e] [] p2) (.popAt i m) := by
  refine PE.imp (pe_bm PySem.F.plainAttrs_list PySem.F.slot_list_pop PySem.F.type_list_pop mt_popAt (pe_var hi hx hd hcd) (pa_cons (PE.toV he) pa_nil h1) hbase hfew hline h1 hplain) fun σ H Q ⟨G, ρ, R, w⟩ => ?_
  have w : Want (if isOwn ρ i = true then ((evalE md modes call m ρ).bind settle).bind fun k ρ => match k, ρ[i]? with
    | .int k, some (.own (.list l)) => if -(2 ^ 63) ≤ k ∧ k < 2 ^ 63 then on (L2.ixN l.length k) fun j => on l[j]? fun d => .ok (.val d) (ρ.set i (.own (.list (l.eraseIdx j)))) else .stuck
    | _, _ => .stuck
    else .stuck) (Aft G X.K md σ ρ H Q) := w
  by_cases ho : isOwn ρ i = true
  case neg => rw [if_neg ho] at w; exact False.elim w
  rw [if_pos ho] at w
  obtain ⟨v0, hv, ty⟩ := tyv_own R ho
  refine ⟨v0, hv, ty, G, ρ, R, w.bind.mono fun d ρ1 w v H1 fr1 sb1 R1 rep1 => ?_⟩
  cases d with
  | int n =>
    cases rep1
    cases zi : ρ1[i]? with
    | none => simp only [zi] at w; exact False.elim w
    | some t =>
      cases t with
      | own d2 =>
        cases d2 with
        | list l =>
          simp only [zi] at w
          by_cases hz : -(2 ^ 63) ≤ n ∧ n < 2 ^ 63
          case neg => rw [if_neg hz] at w; exact False.elim w
          rw [if_pos hz] at w
          obtain ⟨j, ej, w⟩ := Want.on w
          obtain ⟨d, ed, w⟩ := Want.on w
          obtain ⟨p, xs, rfl, hp, rxs, U⟩ := upd_own (es := l.eraseIdx j) R1 zi hv
          obtain ⟨fr3, sb3, R3⟩ := U (xs.eraseIdx j) (rxs.eraseIdx j)
          obtain ⟨u, hu, ru⟩ := rxs.get ed
          refine ⟨p, xs, n, j, u, rfl, rfl, hp, hz.1, hz.2, by rw [rxs.length]; exact (ixN_seq ej).1, hu, ?_⟩
          exact (show Aft G X.K md σ ρ H Q (.val d) _ from w) u _ (fr1.trans sb1 fr3) (sb1.trans sb3) R3 (ru.mono (R1.ext fr3))
        | _ => simp only [zi] at w; exact False.elim w
      | _ => simp only [zi] at w; exact False.elim w
  | _ => exact False.elim w
/-- a statement that is never reached -/
theorem sd_never {st : Stmt} {cc : Nat} {es : List ME} : SD W md modes call X st (.raise cc es) := PS.imp ps_never fun D σ H ⟨G, ρ, R, w⟩ => w
end
end Dn
/-! Den13: a def by its body -/
namespace Dn
open PySem PySem.Spec PyProof.Rows L2

/-- a list may be locked on the way out -/
def Lk (Q : VK) : VK := fun v H => Q v H ∨ ∃ a xs, H a = some (.lst xs) ∧ ∀ o, Q v (upd H a (.frz o (.lst xs)))
section
variable {P : Program} {w : World} {K : PySem.W.Frag} {mg : Str → Option Value} {base : Heap}
abbrev bodyCx (P : Program) (w : World) (K : PySem.W.Frag) (mg : Str → Option Value) (base : Heap) (N : List Str) (qual : Str) (sc : Scope) (f : Addr) (cdv : Value) (A : Around) (outer : List PySem.Env) (s : Shared) (H : Hp) (E : XK) : Cx :=
  Cx.nox (cxOf CX0 P w K mg base N qual sc f cdv A outer s H E)
theorem fun_den {x qual : Str} {st : Stmt} {f : Addr} {g : FuncData} {N ps : List Str} {k : Nat} {sp : Sp} (F : Fun K x qual st f g) (S : FnScope N ps (defScope st)) (len : ∀ vs H Q E, sp vs H Q E → vs.length = ps.length)
    (hb : ∀ (cdv : Value) (A : Around) (outer : List PySem.Env) (s : Shared) (H : Hp) (vs : List V) (Q : VK) (E : XK), Room k (A.deeper (envOfC qual (defScope st) s.heap.objs.size f cdv)) → A.guards = some [] → sp vs H Q E →
      ∃ t, PSs (bodyCx P w K mg base N qual (defScope st) f cdv A outer s H E) (defBody st) t ∧ t { nx := fun _ H' => Q .non H', rt := Lk Q } (L2.start N vs) H) : FnG P w K mg base (k + 1) f g ps sp := by
  obtain ⟨oc, od, kV, doc, pm, an, cdv, ct, osl, rfl, hlk, hcode⟩ := F.ex
  refine ⟨len, ?_⟩
  intro A outer s H args us vs Q E room gd env0 binds vals want
  have same := len _ _ _ _ want
  have inK : K.In s.heap := env0.mod.kin.keeps fun b o z => (env0.bs b o z).1
  have lim : s.heap.NoLimit := env0.mod.nolimit.keeps fun b o z => (env0.bs b o z).1
  have kinds : ∀ y ∈ ps.zip us, (defScope st).names.lookup y.1 = some .local ∨ ((defScope st).names.lookup y.1 = some .cell ∧ ((cellsFrom (s.heap.objs.size + 1) (defScope st).names []).lookup y.1).isSome = true) := by
    intro y hy
    cases S.par y.1 (List.of_mem_zip hy).1 with
    | inl l => exact .inl l
    | inr c => exact .inr ⟨c, PySem.W.cellsFrom_some _ _ _ (.inl c)⟩
  apply codeAny_call_function room.depth (inK _ _ hlk) rfl S.co S.gen rfl (PySem.W.codeRec_of inK hcode)
  apply binds
  apply wpAny_newFunctionEnv_cells S.kind kinds
  intro env rfl0 s1 x
  subst rfl0
  refine ⟨lim.keeps x.toInCall.keep, codeAny_func ?_⟩
  obtain ⟨t, ht, at0⟩ := hb cdv A outer s H vs Q E (room.deeper _) gd want
  have I0 : L2.Inv (cxOf CX0 P w K mg base N qual (defScope st) f cdv A outer s H E) [] (L2.start N vs) H s1 := inv_start S room.hd env0 same vals x
  apply wpAny_mono (ht.nox.run [] s1 (L2.start N vs) H _ I0 at0)
  · intro fl s' z
    have done : ∀ {σ' : L2.St} {H' : Hp} {v : V} {u : Value}, L2.Inv (cxOf CX0 P w K mg base N qual (defScope st) f cdv A outer s H E) [] σ' H' s' → RelV v u → Q v H' → CE outer P w H s Q u s' := by
      intro σ' H' v u J rv q
      exact ⟨v, H', J.os, J.bare, J.base, J.hok, rv, q⟩
    cases fl with
    | next => obtain ⟨σ', H', J, q⟩ := z; exact done (v := .non) (u := .none) J rfl q
    | brk => obtain ⟨_, _, _, q⟩ := z; cases q
    | cont => obtain ⟨_, _, _, q⟩ := z; cases q
    | ret u =>
      obtain ⟨v, σ', H', J, rv, q⟩ := z
      rcases q with q | ⟨a, xs, ha, q⟩
      · exact done J rv q
      · obtain ⟨o, J2⟩ := Dn.Inv.lock J ha
        exact done J2 rv (q o)
  · intro e s' z
    exact z
end
/-! ### the promise -/
theorem start_get {N : List Str} {vs : List V} {i : Nat} {v : V} (h : vs[i]? = some v) : (L2.start N vs)[i]? = some (some v) := by
  have hi : i < vs.length := (List.getElem?_eq_some_iff.mp h).1
  unfold L2.start
  rw [List.getElem?_append_left (by simpa using hi), List.getElem?_map, h]
  rfl
theorem get_start {N : List Str} {vs : List V} {i : Nat} {v : V} (h : (L2.start N vs)[i]? = some (some v)) : vs[i]? = some v := by
  unfold L2.start at h
  by_cases hi : i < vs.length
  · rw [List.getElem?_append_left (by simpa using hi), List.getElem?_map] at h
    cases e : vs[i]? with
    | none => rw [e] at h; cases h
    | some a => rw [e] at h; cases h; rfl
  · rw [List.getElem?_append_right (by simpa using hi), List.getElem?_replicate] at h
    split at h <;> cases h
section
variable {K : PySem.W.Frag} {md : List Bool} {H : Hp} {vs : List V} {ss : List Slot} {N : List Str} {n : Nat}
def ghost (H : Hp) (vs : List V) (ss : List Slot) : Gh := { A := AOwn vs ss, H0 := H, fx := fun i => vs[i]? }
theorem get_un {s : Slot} {i : Nat} (h : (ss ++ List.replicate n Slot.un)[i]? = some s) (hs : s ≠ .un) : ss[i]? = some s := by
  by_cases hi : i < ss.length
  · rwa [List.getElem?_append_left hi] at h
  · rw [List.getElem?_append_right (by omega), List.getElem?_replicate] at h
    split at h
    · cases h; exact absurd rfl hs
    · cases h
theorem rs_start (a : ArgsOk K md H vs ss) (hl : vs.length = ss.length) (hN : N.length = ss.length + n) : RS (ghost H vs ss) K md (L2.start N vs) (ss ++ List.replicate n .un) H := by
  refine ⟨?_, fun i d h => ?_, fun i d h => ?_, fun i j b d e h1 h2 h3 h4 => ?_, fun i b d h1 h2 => ?_, fun b h => h, fun b u h _ => h, fun i v _ h => start_get h⟩
  · unfold L2.start
    simp only [List.length_append, List.length_map, List.length_replicate]
    omega
  · obtain ⟨v, h1, h2⟩ := Paired.get2 a.rep (get_un h (by simp))
    exact ⟨v, start_get h1, h2⟩
  · obtain ⟨v, h1, h2⟩ := Paired.get2 a.rep (get_un h (by simp))
    exact ⟨v, start_get h1, h2⟩
  · exact a.dis i j b d e (get_un h1 (by simp)) (get_un h2 (by simp)) (get_start h3) (get_start h4)
  · have q := get_un h1 (by simp)
    exact .inl ⟨⟨i, d, q, get_start h2⟩, a.md i d q⟩
theorem outs_ok {G : Gh} {σ' : L2.St} {ρ' : Env} {H' : Hp} {np : Nat} (a : ArgsOk K md H vs ss) (hf : G.fx = fun i => vs[i]?) (hl : ss.length = np) (R : RS G K md σ' ρ' H') (hz : np ≤ ρ'.length) (ha : (ρ'.take np).all isVal = true) : OutsOk K H' vs ss (ρ'.take np) := by
  intro i d v h1 h2
  have hi : i < np := by rw [← hl]; exact (List.getElem?_eq_some_iff.mp h1).1
  have f := R.fix i v (a.md i d h1) (by rw [hf]; exact h2)
  have hi' : i < ρ'.length := Nat.lt_of_lt_of_le hi hz
  have e : ρ'[i]? = some ρ'[i] := List.getElem?_eq_getElem hi'
  have e2 : (ρ'.take np)[i]? = some ρ'[i] := by rw [List.getElem?_take_of_lt hi, e]
  refine ⟨_, e2, ?_⟩
  have iv : isVal ρ'[i] = true := List.all_eq_true.mp ha _ (List.mem_of_getElem? e2)
  cases z : ρ'[i] with
  | un => rw [z] at iv; cases iv
  | val d' =>
    obtain ⟨v', q1, q2⟩ := R.val i d' (by rw [e, z])
    rw [f] at q1; cases q1
    exact q2
  | own d' =>
    obtain ⟨v', q1, q2⟩ := R.own i d' (by rw [e, z])
    rw [f] at q1; cases q1
    exact q2
end
theorem outs_inv {np : Nat} {ρ : Env} {f : List Slot → CRes} {P : EV → List Slot → Prop} (h : WantC (outs np ρ f) P) : np ≤ ρ.length ∧ (ρ.take np).all isVal = true ∧ WantC (f (ρ.take np)) P := by
  unfold outs at h
  split at h
  case isTrue z => exact ⟨z.1, z.2, h⟩
  case isFalse => exact False.elim h
section
variable {P : Program} {w : World} {K : PySem.W.Frag} {mg : Str → Option Value} {base : Heap}
/-- A DEF: from its body's reading to its promise -/
theorem fn_den {x qual : Str} {st : Stmt} {f : Addr} {g : FuncData} {N ps : List Str} {k W : Nat} {modes : Nat → List Bool} {call : Calls} (fd : FD) (F : Fun K x qual st f g) (S : FnScope N ps (defScope st)) (hp : fd.np = ps.length) (hn : fd.ns = N.length) (hm : fd.md.length = fd.np)
    (hb : ∀ (cdv : Value) (A : Around) (outer : List PySem.Env) (s : Shared) (H : Hp) (E : XK), Room k (A.deeper (envOfC qual (defScope st) s.heap.objs.size f cdv)) → A.guards = some [] → 
      BD W fd.md modes call (bodyCx P w K mg base N qual (defScope st) f cdv A outer s H E) (defBody st) fd.body) : FnG P w K mg base (k + 1) f g ps (spF K fd.md (runF W modes call fd)) := by
  have lenOf : ∀ {vs H}, (∃ ss, ArgsOk K fd.md H vs ss ∧ ss.length = fd.np) → vs.length = ps.length := fun ⟨ss, a, e⟩ => by rw [Paired.length a.rep, e, hp]
  have look : ∀ {ss : List Slot} {Pp}, WantC (runF W modes call fd ss) Pp → ss.length = fd.np := fun {ss Pp} h => by
    unfold runF at h
    split at h
    case isTrue z => exact z
    case isFalse => exact False.elim h
  refine fun_den F S (fun vs H Q E ⟨ss, a, h⟩ => lenOf ⟨ss, a, look h⟩) fun cdv A outer s H vs Q E room gd ⟨ss, a, h⟩ => ?_
  refine ⟨_, hb cdv A outer s H E room gd, ?_⟩
  have hl := look h
  unfold runF at h
  rw [if_pos hl] at h
  have hpl : ps.length ≤ N.length := by have := congrArg List.length S.pre; rw [List.length_take] at this; omega
  have R0 : RS (ghost H vs ss) K fd.md (L2.start N vs) (ss ++ List.replicate (fd.ns - fd.np) .un) H := rs_start a (Paired.length a.rep) (by omega)
  refine ⟨ghost H vs ss, _, R0, ?_⟩
  -- the end
  have fin : ∀ {σ' : L2.St} {ρ' : Env} {H' : Hp} {v : V} {e : EV}, RS (ghost H vs ss) K fd.md σ' ρ' H' → WantC (outs fd.np ρ' (.ok e)) (fun e outs => ∀ v H', (∀ b u, H b = some u → ¬ AOwn vs ss b → H' b = some u) → (∀ b, H' b = none → H b = none) →
      RepN K H H' v e → OutsOk K H' vs ss outs → Q v H') → RepN K H H' v e → Q v H' := fun {σ' ρ' H' v e} R h r => by
    obtain ⟨hz, ha, h⟩ := outs_inv h
    exact h v H' R.keep R.thr r (outs_ok a rfl hl R hz ha)
  have step : ∀ {f : Fl} {ρ' : Env}, (f = .nx → WantC (back fd.np (.val .none) ρ') (fun e outs => ∀ v H', (∀ b u, H b = some u → ¬ AOwn vs ss b → H' b = some u) → (∀ b, H' b = none → H b = none) →
      RepN K H H' v e → OutsOk K H' vs ss outs → Q v H')) → (∀ e, f = .ret e → WantC (back fd.np e ρ') (fun e outs => ∀ v H', (∀ b u, H b = some u → ¬ AOwn vs ss b → H' b = some u) → (∀ b, H' b = none → H b = none) →
      RepN K H H' v e → OutsOk K H' vs ss outs → Q v H')) → f ≠ .brk → f ≠ .cnt → FlP (ghost H vs ss) K fd.md H { nx := fun _ H' => Q .non H', rt := Lk Q } f ρ' := fun {f ρ'} h1 h2 h3 h4 => by
    cases f with
    | brk => exact absurd rfl h3
    | cnt => exact absurd rfl h4
    | nx => exact fun σ' H' R _ => fin R (h1 rfl) .non
    | ret e =>
      intro σ' v H' R r
      have q := h2 e rfl
      cases e with
      | val d => exact .inl (fin R q r)
      | fr d =>
        obtain ⟨r, b, rfl, hb⟩ := r
        exact .inl (fin R q ⟨b, rfl, hb, r⟩)
      | al i =>
        have r : σ'[i]? = some (some v) := r
        unfold back at q
        by_cases hi : i < fd.np
        · simp only [if_pos hi] at q
          cases z : ρ'[i]? with
          | none => rw [show settle (.al i) ρ' = .stuck by show (match ρ'[i]? with | some (.val d) => Res.ok d ρ' | some (.own d) => .ok d (ρ'.set i (.val d)) | _ => .stuck) = _; rw [z]] at q; exact False.elim q
          | some t =>
            cases t with
            | un => rw [show settle (.al i) ρ' = .stuck by show (match ρ'[i]? with | some (.val d) => Res.ok d ρ' | some (.own d) => .ok d (ρ'.set i (.val d)) | _ => .stuck) = _; rw [z]] at q; exact False.elim q
            | val d =>
              rw [show settle (.al i) ρ' = .ok d ρ' by show (match ρ'[i]? with | some (.val d) => Res.ok d ρ' | some (.own d) => .ok d (ρ'.set i (.val d)) | _ => .stuck) = _; rw [z]] at q
              obtain ⟨v', e1, e2⟩ := R.val i d z
              rw [r] at e1; cases e1
              exact .inl (fin R q e2)
            | own d =>
              rw [show settle (.al i) ρ' = .ok d (ρ'.set i (.val d)) by show (match ρ'[i]? with | some (.val d) => Res.ok d ρ' | some (.own d) => .ok d (ρ'.set i (.val d)) | _ => .stuck) = _; rw [z]] at q
              obtain ⟨b, xs, rfl, h4, ow, L⟩ := lock_slot R z r
              exact .inr ⟨b, xs, h4, fun o => fin (L o).2.1 q (L o).2.2⟩
        · simp only [if_neg hi] at q
          cases z : ρ'[i]? with
          | none => rw [z] at q; exact False.elim q
          | some t =>
            rw [z] at q
            cases t with
            | un => exact False.elim q
            | val d =>
              obtain ⟨v', e1, e2⟩ := R.val i d z
              rw [r] at e1; cases e1
              exact .inl (fin R q e2)
            | own d =>
              obtain ⟨v', e1, e2⟩ := R.own i d z
              rw [r] at e1; cases e1
              obtain ⟨b, xs, ds, rfl, rfl, h4, rs⟩ := e2
              have hb : H b = none := by
                rcases R.adr i b _ z r with ⟨_, y⟩ | y
                · have := (List.getElem?_eq_some_iff.mp y).1
                  omega
                · exact y
              exact .inl (fin R q ⟨b, rfl, hb, b, xs, ds, rfl, rfl, h4, rs⟩)
  cases z : execSs W fd.md modes call fd.body (ss ++ List.replicate (fd.ns - fd.np) .un) with
  | stuck => rw [z] at h; exact False.elim h
  | exc x ρ' => rw [z] at h; exact False.elim (outs_inv h).2.2
  | ok f ρ' =>
    rw [z] at h
    cases f with
    | nx => exact step (f := .nx) (fun _ => h) (fun e q => nomatch q) (by simp) (by simp)
    | ret e => exact step (f := .ret e) (fun q => nomatch q) (fun e' q => by cases q; exact h) (by simp) (by simp)
    | brk => exact False.elim h
    | cnt => exact False.elim h
end
end Dn
/-! Den14: short words; the law's end -/
namespace Dn
open PySem PySem.Spec PyProof.Rows L2

def modesOf (T : List FD) : Nat → List Bool := fun g => ((T[g]?).map (·.md)).getD []
section
variable {W : Nat} {md : List Bool} {modes : Nat → List Bool} {call : Calls} {X : Cx} {x y : Str} {pos p1 p2 : Pos} {e a b c : Expr} {es : List Expr} {m ma mb mc : ME} {ms : List ME}
theorem dv (i : Nat) (hN : X.N[i]? = some x := by rfl) (hv : Vis X.env.scope x := by first | exact Or.inl rfl | exact Or.inr (Or.inl rfl) | exact Or.inr (Or.inr rfl)) (hd : (x == ("__debug__" : Str)) = false := by decide)
    (hcd : (x == ("__classdict__" : Str)) = false := by decide) : PD md modes call X (.Name x pos) (.v i) := pd_v i hN hv hd hcd
theorem dg {u : Value} {d : PyData} {v : V} (hm : X.mg x = some u) (r : RelV v u) (rp : ∀ H, Rep X.K H v d) (hg : Gl X x := by rfl) (hd : (x == ("__debug__" : Str)) = false := by decide) : PD md modes call X (.Name x pos) (.c d) := pd_glob hg hm r rp hd
theorem dgi {i : Int} (hm : ∃ t, X.mg x = some (.int i t)) (hg : Gl X x := by rfl) (hd : (x == ("__debug__" : Str)) = false := by decide) : PD md modes call X (.Name x pos) (.c (.int i)) := by
  obtain ⟨t, hm⟩ := hm
  exact pd_glob (v := .int i) hg hm ⟨t, rfl⟩ (fun _ => .int i) hd
theorem dgs {i : Str} (hm : ∃ t, X.mg x = some (.str i t)) (hg : Gl X x := by rfl) (hd : (x == ("__debug__" : Str)) = false := by decide) : PD md modes call X (.Name x pos) (.c (.str i)) := by
  obtain ⟨t, hm⟩ := hm
  exact pd_glob (v := .str i) hg hm ⟨t, rfl⟩ (fun _ => .str i) hd
theorem dapp (i : Nat) {apos : Pos} (he : PD md modes call X e m) (hi : X.N[i]? = some x := by rfl) (hv : Vis X.env.scope x := by first | exact Or.inl rfl | exact Or.inr (Or.inl rfl) | exact Or.inr (Or.inr rfl)) (hs : swapsWith (.Call (.Attribute (.Name x p1) "append" apos) [e] [] p2) none pos.line X.env = pure false := by rfl)
    (hbase : attributeBase (.Name x p1) "append" X.env (eval (.Name x p1) X.env) = eval (.Name x p1) X.env := by rfl)
    (hfew : ((backTo p2 (starEach [e] X.env)).all (fun x => !x.1) && (backToKw p2 (keywordEach [] X.env)).all (fun x => x.1.isSome)
      && decide ([e].length + ([] : List Keyword).length + (if ([] : List Keyword).isEmpty then 0 else 1) < 30)) = true := by rfl)
    (hline : (apos.endLine == p2.line) = true := by rfl) (h1 : starEach [e] X.env = (false, eval e X.env) :: starEach [] X.env := by rfl) (hplain : (backTo p2 (starEach [] X.env)).any (·.1) = false := by rfl) (hd : (x == ("__debug__" : Str)) = false := by decide) (hcd : (x == ("__classdict__" : Str)) = false := by decide) :
    SD W md modes call X (.Expr (.Call (.Attribute (.Name x p1) "append" apos) [e] [] p2) pos) (.app i m) := sd_app i hi hv he hs hbase hfew hline h1 hplain hd hcd
theorem dtr (ha : PD md modes call X a ma) (he : ∀ whole, isTrue a X.env whole = (do let v ← whole; standAt a.pos; holding [v] (PySem.truthy v)) := by intro _; rfl) : TD md modes call X a ma := td_truth ha he
theorem tdp (h : PW X e (tTr X.K md (evalT md modes call m))) : TD md modes call X e m := PW.pt h
theorem tand1 (h : TD md modes call X a ma) : PW X (.BoolOp .And [a] pos) (tTr X.K md (evalT md modes call ma)) := pw_and1 h
theorem tor1 (h : TD md modes call X a ma) : PW X (.BoolOp .Or [a] pos) (tTr X.K md (evalT md modes call ma)) := pw_or1 h
theorem dset (i : Nat) (hN : X.N.Nodup) (he : PD md modes call X e m) (hi : X.N[i]? = some x := by rfl) (hx : Loc X.env.scope x := by first | exact Or.inl rfl | exact Or.inr rfl) (hs : swapsWith e (some (.Name x p1)) pos.line X.env = pure false := by rfl) (hf : X.fn x = true ∨ X.env.scope.names.lookup x = some .local := by first | exact Or.inl rfl | exact Or.inr rfl) :
    SD W md modes call X (.Assign [.Name x p1] e pos) (.set i m) := sd_set i hN hi hx he hs hf
theorem dn (i : Nat) (hN : X.N.Nodup) (hi : X.N[i]? = some x := by rfl) (hx : Loc X.env.scope x := by first | exact Or.inl rfl | exact Or.inr rfl) (hf : X.fn x = true ∨ X.env.scope.names.lookup x = some .local := by first | exact Or.inl rfl | exact Or.inr rfl) : GD md X (.Name x pos) (.n i) := gd_n i hN hi hx hf
theorem dngs {is : List Nat} (i : Nat) (hN : X.N.Nodup) (h : NGs X es is) (hi : X.N[i]? = some x := by rfl) (hx : Loc X.env.scope x := by first | exact Or.inl rfl | exact Or.inr rfl) (hf : X.fn x = true ∨ X.env.scope.names.lookup x = some .local := by first | exact Or.inl rfl | exact Or.inr rfl)
    (hs : (assignEach (.Name x pos :: es) X.env).map (·.2) = assign (.Name x pos) X.env :: (assignEach es X.env).map (·.2) := by rfl) : NGs X (.Name x pos :: es) (i :: is) := ngs_cons i hN hi hx hf h hs
theorem daug (i : Nat) (o : BOp) (hN : X.N.Nodup) (he : PD md modes call X e m) (hi : X.N[i]? = some x := by rfl) (hx : Loc X.env.scope x := by first | exact Or.inl rfl | exact Or.inr rfl) (hf : X.fn x = true ∨ X.env.scope.names.lookup x = some .local := by first | exact Or.inl rfl | exact Or.inr rfl) : SD W md modes call X (.AugAssign (.Name x p1) (bop o) e pos) (.aug i o m) := sd_aug i o hN hi hx he hf
end
/-! ### the law's end -/
theorem reps_ints {K : PySem.W.Frag} {H : Hp} : ∀ ns : List Int, Reps K H (ns.map V.int) (ns.map PyData.int)
  | [] => .nil
  | n :: ns => .cons (.int n) (reps_ints ns)
theorem fn_zero {P : Program} {w : World} {K : PySem.W.Frag} {mg : Str → Option Value} {base : Heap} {f : Addr} {g : FuncData} {ps : List Str} {md : List Bool} {W i : Nat} {T : List FD} : FnG P w K mg base 0 f g ps (spF K md (callF W T 0 i)) :=
  ⟨fun _ _ _ _ ⟨_, _, z⟩ => False.elim z, fun _ _ _ _ _ _ _ _ _ _ _ _ _ _ ⟨_, _, z⟩ => False.elim z⟩
/-- the script told in the abstract heap, unless it is an object of the module -/
def told (K : PySem.W.Frag) (a : Addr) (o : Obj) (xs : List V) : Hp := fun b => match K.lookup a with
  | some _ => none
  | none => if b = a then some (.frz o (.lst xs)) else none
theorem told_inv {K : PySem.W.Frag} {a b : Addr} {o : Obj} {xs : List V} {u : HO} (h : told K a o xs b = some u) : b = a ∧ u = .frz o (.lst xs) ∧ K.lookup a = none := by
  unfold told at h
  cases z : K.lookup a with
  | some o' => rw [z] at h; cases h
  | none =>
    rw [z] at h
    by_cases e : b = a
    · have h : (if b = a then some (HO.frz o (.lst xs)) else none) = some u := h
      rw [if_pos e] at h
      cases h
      exact ⟨e, rfl, rfl⟩
    · have h : (if b = a then some (HO.frz o (.lst xs)) else none) = some u := h
      rw [if_neg e] at h
      cases h
theorem told_fz {K : PySem.W.Frag} {a : Addr} {vs : List Value} {ns : List Int} {h : Heap} (KX : K.In h) (ha : h.get? a = some { cls := .type "list", data := .seq vs.toArray }) (hi : IntsAre vs ns) (hl : ns.length ≤ sizeLine) :
    FzL K (told K a { cls := .type "list", data := .seq vs.toArray } (ns.map .int)) a (ns.map .int) := by
  cases z : K.lookup a with
  | none =>
    refine .inl ⟨{ cls := .type "list", data := .seq vs.toArray }, ?_⟩
    unfold told
    rw [z]
    exact if_pos rfl
  | some o =>
    have e := KX a o z
    rw [ha] at e
    cases e
    exact .inr ⟨_, vs.toArray, _, z, rfl, rfl, rfl, by rw [List.size_toArray, hi.length]; exact hl, by simpa using vals_ints hi⟩
theorem law_end {P : Program} {w : World} {K : PySem.W.Frag} {mg mb : Str → Option Value} {k : Nat} {fa a : Addr} {g : FuncData} {x : Str} {md : List Bool} {f : List Slot → CRes} {s : Shared} {vs : List Value} {ns : List Int}
    (KX : K.In s.heap) (nsM : s.heap.Ns mainGlobals mg) (nsB : s.heap.Ns builtinsNs mb) (boot : ∀ y : Str, y ≠ "__name__" → mb y = bootBuiltins y) (lim : s.heap.NoLimit) (noG : s.gens = #[])
    (ha : s.heap.get? a = some { cls := .type "list", data := .seq vs.toArray }) (hi : IntsAre vs ns) (hl : ns.length ≤ sizeLine) (room : Room k callerA)
    (F : ∀ base : Heap, K.In base → base.Ns mainGlobals mg → FnG P w K mg base k fa g [x] (spF K md f)) (binds : ∀ (s : Shared) (u : Value), BindsTo s g ⟨[u], []⟩ [(x, u)])
    (law : ∃ out, f [.val (.list (ns.map .int))] = .ok (.val (.bool true)) out) :
    codeAny (model P w) callerA (.call (.ref fa) ⟨[.ref a], []⟩) (fun r s' => r = .ok (.ret (.bool true)) ∧ OldK s.heap s'.heap ∧ s'.os = s.os ∧ AllBare s'.gens) s := by
  let o : Obj := { cls := .type "list", data := .seq vs.toArray }
  let H : Hp := told K a o (ns.map .int)
  have fz : FzL K H a (ns.map .int) := told_fz KX ha hi hl
  have hok : HOk P w H s.heap := fun b u z => by
    obtain ⟨rfl, rfl, _⟩ := told_inv z
    exact ⟨ha, by rw [List.length_map]; exact hl, vs, _, vals_ints hi, ha⟩
  -- what is no told script stands in the base
  have free : ∀ {b : Addr} {ob : Obj}, s.heap.get? b = some ob → (b = a → K.lookup a ≠ none) → (hidT s.heap H).get? b = some ob := fun {b ob} e n => hidT_get e (by
    cases q : H b with
    | none => rfl
    | some u =>
      obtain ⟨e1, _, e2⟩ := told_inv q
      exact absurd e2 (n e1))
  have inB : K.In (hidT s.heap H) := fun b ob e => free (KX b ob e) fun z => by
    rw [← z, e]
    simp
  have nsOf : ∀ {b : Addr} {m : Str → Option Value}, s.heap.Ns b m → (hidT s.heap H).Ns b m := fun {b m} ⟨ob, es, ep, e, d, r⟩ => by
    refine ⟨ob, es, ep, free e fun z => ?_, d, r⟩
    rw [z, ha] at e
    cases e
    have d : Data.seq vs.toArray _ = Data.dict es ep := d
    cases d
  have mod : Mod K mg (hidT s.heap H) := ⟨inB, nsOf nsM, ⟨mb, nsOf nsB, boot⟩, lim.elim fun mc q => ⟨mc, nsOf q.1, q.2⟩⟩
  have env0 : Env0 P w K mg (hidT s.heap H) callerA [] s H :=
    ⟨rfl, mod, fun b ob e => of_hidT e, Nat.le_of_eq (hidT_size _ _), trivial, fun b z => absurd z (by show b ∉ ([] : List Addr); simp), hok, .of_eq noG⟩
  have ask : spF K md f [.ref a] H (fun v _ => v = .bl true) fun _ _ _ => False := by
    refine ⟨[.val (.list (ns.map .int))], ⟨.cons (.lst fz (reps_ints ns)) .nil, fun i j b d e h1 => ?_, fun i d h1 => ?_⟩, ?_⟩
    · match i with
      | 0 => simp at h1
      | i + 1 => simp at h1
    · match i with
      | 0 => simp at h1
      | i + 1 => simp at h1
    · obtain ⟨out, e⟩ := law
      rw [e]
      intro v H' _ _ r _
      cases (show Rep K H' v (.bool true) from r)
      rfl
  refine codeAny_mono ((F _ inB (nsOf nsM)).run callerA [] s H ⟨[.ref a], []⟩ [.ref a] [.ref a] _ _ room rfl env0 (binds s (.ref a)) (.cons rfl .nil) ask) fun r s' z => ?_
  cases r with
  | error e => exact False.elim z
  | ok fl =>
    cases fl with
    | next => exact False.elim z
    | brk => exact False.elim z
    | cont => exact False.elim z
    | ret u =>
      obtain ⟨v, H', os, bare, un, hok', rv, e⟩ := z
      cases (show v = .bl true from e)
      cases (show u = Value.bool true from rv)
      refine ⟨rfl, OldK.of_keep fun b ob e => ?_, os, bare⟩
      cases q : H b with
      | none => exact un.keep b ob e q (fun z => absurd z (by show b ∉ ([] : List Addr); simp)) (by simp)
      | some u =>
        obtain ⟨rfl, rfl, _⟩ := told_inv q
        have old := (hok _ _ q).1
        rw [e] at old
        cases old
        exact (hok' _ _ (un.frzs _ _ _ q)).1
theorem law_walk {l : PySem.W.OpenLaw} {n k : Nat} {q : Program} {loose : List Str} {XP : (Str → Option Value) → Heap → Prop} {YP : World → Heap → Prop} {d : DefRec} {K : Params → PySem.W.Frag} {x : Str} {md : List Bool} {f : List Slot → CRes}
    (hn : l.most = some n) (hn2 : n ≤ sizeLine) (hdf : d.params.defaults = []) (room : Room k callerA) (hY : ∀ (w : World) (h : Heap), YP w h → (K w.params).In h)
    (law : ∀ ns : List Int, ns.length ≤ n → ∃ out, f [.val (.list (ns.map .int))] = .ok (.val (.bool true)) out)
    (F : ∀ (w : World) (mg : Str → Option Value) (fa : Addr) (h : Heap), (K w.params).In h → h.Ns mainGlobals mg → mg d.name = some (.ref fa) →
      ∃ g : FuncData, (∀ (s : Shared) (u : Value), BindsTo s g ⟨[u], []⟩ [(x, u)]) ∧ ∀ base : Heap, (K w.params).In base → base.Ns mainGlobals mg → FnG l.prog w (K w.params) mg base k fa g [x] (spF (K w.params) md f)) :
    PySem.W.WalkO q loose XP YP l.row.toRowW d [] (fun f vs => PySem.call f vs) :=
  Att.attach_call hn hdf fun w s₀ s₁ mg mb fa o pm cd doc a vs ns G Y ho hd hcd hmg hobj hints hlen hg => by
    obtain ⟨g, binds, Fs⟩ := F w mg fa _ (hY w _ Y) G.T.g hmg
    exact law_end (hY w _ Y) G.T.g G.T.b G.T.builtins G.T.nolimit hg hobj hints (Nat.le_trans hlen hn2) room Fs binds (law ns hlen)
end Dn
/-! Den15: reading the small language by rewriting -/
namespace Dn
open PySem
/-- a continuation that is not looked into: the mark hangs on it -/
structure Mark {α : Sort _} (f : α) where
def Res.bnd {α β : Type} (r : Res α) (f : α → Env → Res β) (t : Mark f) : Res β := r.bind f
def onm {α β : Type} (o : Option α) (f : α → Res β) (t : Mark f) : Res β := on o f
@[simp ↓] theorem bind_bnd {α β : Type} {r : Res α} {f : α → Env → Res β} : r.bind f = r.bnd f ⟨⟩ := rfl
@[simp ↓] theorem on_onm {α β : Type} {o : Option α} {f : α → Res β} : on o f = onm o f ⟨⟩ := rfl
@[simp] theorem bnd_ok {α β : Type} {a : α} {ρ : Env} {f : α → Env → Res β} {t : Mark f} : (Res.ok a ρ).bnd f t = f a ρ := rfl
@[simp] theorem bnd_exc {α β : Type} {x : Exc} {ρ : Env} {f : α → Env → Res β} {t : Mark f} : (Res.exc x ρ).bnd f t = .exc x ρ := rfl
@[simp] theorem bnd_stuck {α β : Type} {f : α → Env → Res β} {t : Mark f} : (Res.stuck : Res α).bnd f t = .stuck := rfl
@[simp] theorem onm_some {α β : Type} {a : α} {f : α → Res β} {t : Mark f} : onm (some a) f t = f a := rfl
theorem bind_ext {α β : Type} {r : Res α} {f g : α → Env → Res β} (h : ∀ x ρ, f x ρ = g x ρ) : r.bind f = r.bind g := by
  have e : f = g := funext fun x => funext fun ρ => h x ρ
  rw [e]
theorem on_ext {α β : Type} {o : Option α} {f g : α → Res β} (h : ∀ x, f x = g x) : on o f = on o g := by
  have e : f = g := funext h
  rw [e]
/-- a slot's raw value -/
def slotE (i : Nat) (ρ : Env) : Option Slot → Res EV
  | some (.val d) => .ok (.val d) ρ
  | some (.own _) => .ok (.al i) ρ
  | _ => .stuck
@[simp] theorem slotE_val {i : Nat} {ρ : Env} {d : PyData} : slotE i ρ (some (.val d)) = .ok (.val d) ρ := rfl
@[simp] theorem slotE_own {i : Nat} {ρ : Env} {d : PyData} : slotE i ρ (some (.own d)) = .ok (.al i) ρ := rfl
def negE (ρ : Env) : EV → Res EV
  | .val (.int i) => .ok (.val (.int (-i))) ρ
  | _ => .stuck
@[simp] theorem negE_int {ρ : Env} {i : Int} : negE ρ (.val (.int i)) = .ok (.val (.int (-i))) ρ := rfl
def setE (i : Nat) (ρ : Env) : Option Slot → Res PyData
  | some (.val d) => .ok d ρ
  | some (.own d) => .ok d (ρ.set i (.val d))
  | _ => .stuck
@[simp] theorem setE_val {i : Nat} {ρ : Env} {d : PyData} : setE i ρ (some (.val d)) = .ok d ρ := rfl
@[simp] theorem setE_own {i : Nat} {ρ : Env} {d : PyData} : setE i ρ (some (.own d)) = .ok d (ρ.set i (.val d)) := rfl
@[simp] theorem settle_val {ρ : Env} {d : PyData} : settle (.val d) ρ = .ok d ρ := rfl
@[simp] theorem settle_fr {ρ : Env} {d : PyData} : settle (.fr d) ρ = .ok d ρ := rfl
@[simp] theorem settle_al {ρ : Env} {i : Nat} : settle (.al i) ρ = setE i ρ ρ[i]? := by
  show (match ρ[i]? with | some (.val d) => Res.ok d ρ | some (.own d) => .ok d (ρ.set i (.val d)) | _ => .stuck) = _
  cases ρ[i]? with
  | none => rfl
  | some s => cases s <;> rfl
@[simp] theorem toR_val {d : PyData} : toR (.val d) = .dat d := rfl
@[simp] theorem toR_fr {d : PyData} : toR (.fr d) = .dat d := rfl
@[simp] theorem toR_al {i : Nat} : toR (.al i) = .al i := rfl
@[simp] theorem deref_dat {ρ : Env} {d : PyData} : deref ρ (.dat d) = some d := rfl
@[simp] theorem deref_al {ρ : Env} {i : Nat} : deref ρ (.al i) = (ρ[i]?).bind slotD := rfl
@[simp] theorem slotD_val {d : PyData} : slotD (.val d) = some d := rfl
@[simp] theorem slotD_own {d : PyData} : slotD (.own d) = some d := rfl
@[simp] theorem still_val {ρ : Env} {d : PyData} : still (.val d) ρ = .ok (.val d) ρ := rfl
@[simp] theorem still_fr {ρ : Env} {d : PyData} : still (.fr d) ρ = .ok (.fr d) ρ := rfl
@[simp] theorem still_al {ρ : Env} {i : Nat} : still (.al i) ρ = (setE i ρ ρ[i]?).bind fun d ρ => .ok (.val d) ρ := by
  show (settle (.al i) ρ).bind _ = _
  rw [settle_al]
@[simp] theorem putS_val {i : Nat} {ρ : Env} {d : PyData} : putS i (.val d) ρ = .ok () (ρ.set i (.val d)) := rfl
@[simp] theorem putS_fr {i : Nat} {ρ : Env} {d : PyData} : putS i (.fr d) ρ = .ok () (ρ.set i (.own d)) := rfl
@[simp] theorem ofO_some {α : Type} {a : α} {ρ : Env} : ofO (some a) ρ = .ok a ρ := rfl
def afterC (as : List AV) (ρ : Env) : CRes → Res EV
  | .ok (.al _) _ => .stuck
  | .ok e outs => .ok e (putBack as outs ρ)
  | .exc x outs => .exc x (putBack as outs ρ)
  | .stuck => .stuck
@[simp] theorem afterC_val {as : List AV} {ρ : Env} {d : PyData} {outs : List Slot} : afterC as ρ (.ok (.val d) outs) = .ok (.val d) (putBack as outs ρ) := rfl
@[simp] theorem afterC_fr {as : List AV} {ρ : Env} {d : PyData} {outs : List Slot} : afterC as ρ (.ok (.fr d) outs) = .ok (.fr d) (putBack as outs ρ) := rfl
def popE (i : Nat) (ρ : Env) : Option Slot → Res EV
  | some (.own (.list l)) => on l.getLast? fun d => .ok (.val d) (ρ.set i (.own (.list l.dropLast)))
  | _ => .stuck
@[simp] theorem popE_own {i : Nat} {ρ : Env} {l : List PyData} : popE i ρ (some (.own (.list l))) = on l.getLast? fun d => .ok (.val d) (ρ.set i (.own (.list l.dropLast))) := rfl
section
variable {md : List Bool} {modes : Nat → List Bool} {call : Calls} {ρ : Env} {a b c e : ME} {es : List ME}
@[simp] theorem ev_c {d : PyData} : evalE md modes call (.c d) ρ = .ok (.val d) ρ := rfl
@[simp] theorem ev_v {i : Nat} : evalE md modes call (.v i) ρ = slotE i ρ ρ[i]? := by
  show (match ρ[i]? with | some (.val d) => Res.ok (EV.val d) ρ | some (.own _) => .ok (.al i) ρ | _ => .stuck) = _
  cases ρ[i]? with
  | none => rfl
  | some s => cases s <;> rfl
@[simp] theorem ev_tup : evalE md modes call (.tup es) ρ = (evalVs md modes call es ρ).bind fun ds ρ => if ds.length ≤ szl then .ok (.val (.tuple ds)) ρ else .stuck := rfl
@[simp] theorem ev_lst : evalE md modes call (.lst es) ρ = (evalVs md modes call es ρ).bind fun ds ρ => if ds.length ≤ szl then .ok (.fr (.list ds)) ρ else .stuck := rfl
@[simp] theorem ev_bin {o : BOp} : evalE md modes call (.bin o a b) ρ = (evalE md modes call a ρ).bind fun x ρ => (evalE md modes call b ρ).bind fun y ρ => on (deref ρ (toR x)) fun x => on (deref ρ (toR y)) fun y => ofO (binD o x y) ρ := rfl
@[simp] theorem ev_neg : evalE md modes call (.neg a) ρ = (evalE md modes call a ρ).bind fun x ρ => negE ρ x := by
  refine bind_ext fun x ρ => ?_
  cases x with
  | val d => cases d <;> rfl
  | _ => rfl
@[simp] theorem ev_cmp {o : COp} : evalE md modes call (.cmp o a b) ρ = (evalE md modes call a ρ).bind fun x ρ => (evalE md modes call b ρ).bind fun y ρ => on (deref ρ (toR x)) fun x => on (deref ρ (toR y)) fun y => on (cmpD o x y) fun b => .ok (.val (.bool b)) ρ := rfl
@[simp] theorem ev_chain {o o' : COp} : evalE md modes call (.chain o o' a b c) ρ = (evalE md modes call a ρ).bind fun x ρ => (evalE md modes call b ρ).bind fun y ρ => on (deref ρ (toR x)) fun x' => on (deref ρ (toR y)) fun y' => on (cmpD o x' y') fun k => if k = true then
      (evalE md modes call c ρ).bind fun z ρ => on (deref ρ (toR y)) fun y => on (deref ρ (toR z)) fun z => on (cmpD o' y z) fun b => .ok (.val (.bool b)) ρ
      else .ok (.val (.bool false)) ρ := rfl
@[simp] theorem ev_and : evalE md modes call (.and a b) ρ = (evalE md modes call a ρ).bind fun x ρ => on ((deref ρ (toR x)).bind truthy) fun k => if k = true then evalE md modes call b ρ else .ok x ρ := rfl
@[simp] theorem ev_or : evalE md modes call (.or a b) ρ = (evalE md modes call a ρ).bind fun x ρ => on ((deref ρ (toR x)).bind truthy) fun k => if k = true then .ok x ρ else evalE md modes call b ρ := rfl
@[simp] theorem ev_not : evalE md modes call (.not a) ρ = (evalE md modes call a ρ).bind fun x ρ => on ((deref ρ (toR x)).bind truthy) fun k => .ok (.val (.bool (!k))) ρ := rfl
@[simp] theorem ev_ite : evalE md modes call (.ite c a b) ρ = (evalE md modes call c ρ).bind fun x ρ => on ((deref ρ (toR x)).bind truthy) fun k => if k = true then evalE md modes call a ρ else evalE md modes call b ρ := rfl
@[simp] theorem ev_idx : evalE md modes call (.idx a b) ρ = (evalE md modes call a ρ).bind fun x ρ => (evalE md modes call b ρ).bind fun y ρ => on (deref ρ (toR x)) fun x => on (deref ρ (toR y)) fun y => on (idxD x y) fun d => .ok (.val d) ρ := rfl
@[simp] theorem ev_sl {lo hi : MP} : evalE md modes call (.sl a lo hi) ρ = (evalE md modes call a ρ).bind fun x ρ => (evalP md modes call lo ρ).bind fun l ρ => (evalP md modes call hi ρ).bind fun h ρ => on (deref ρ (toR x)) fun x => ofO (slD x l h) ρ := rfl
@[simp] theorem ev_rev : evalE md modes call (.rev a) ρ = (evalE md modes call a ρ).bind fun x ρ => on (deref ρ (toR x)) fun x => ofO (revD x) ρ := rfl
@[simp] theorem ev_isi {ts : List Ty} : evalE md modes call (.isi a ts) ρ = (evalE md modes call a ρ).bind fun x ρ => on (deref ρ (toR x)) fun x => .ok (.val (.bool (ts.any (isTy x)))) ρ := rfl
@[simp] theorem ev_call {f : Nat} : evalE md modes call (.call f es) ρ = (evalAs md modes call (modes f) es ρ).bind fun as ρ => on (argSlots ρ as) fun ss => afterC as ρ (call f ss) := by
  refine bind_ext fun as ρ => on_ext fun ss => ?_
  cases call f ss with
  | ok e outs => cases e <;> rfl
  | _ => rfl
@[simp] theorem ev_blt {o : Blt} : evalE md modes call (.blt o es) ρ = (evalRs md modes call es ρ).bind fun xs ρ => on (xs.mapM (deref ρ)) fun ds => ofO (bltD o ds) ρ := rfl
/-- a comprehension behind its walk -/
def lcE (md : List Bool) (modes : Nat → List Bool) (call : Calls) (ws : List Nat) (tg : Tg) (cs : List ME) (e : ME) (ds : List PyData) (ρ : Env) : Res EV := if ws.all (free md) = true then
      (compL (fun d ρ => on (assignT md tg d ρ) fun ρ => evalCs md modes call cs ρ) (fun ρ => (evalE md modes call e ρ).bind settle) (wipeS ws) ds [] (wipeS ws ρ)).bind fun l ρ' => .ok (.fr (.list l)) (restore ws ρ ρ')
      else .stuck
def forE (W : Nat) (md : List Bool) (modes : Nat → List Bool) (call : Calls) (tg : Tg) (ss : List MS) (ds : List PyData) (ρ : Env) : Res Fl := forL (assignT md tg) (execSs W md modes call ss) ds ρ
def whileE (W : Nat) (md : List Bool) (modes : Nat → List Bool) (call : Calls) (c : ME) (ss : List MS) (n : Nat) (ρ : Env) : Res Fl := whileL (evalT md modes call c) (execSs W md modes call ss) n ρ
@[simp] theorem ev_lc {ws : List Nat} {tg : Tg} {it : MI} {cs : List ME} : evalE md modes call (.lc ws tg it cs e) ρ = (evalI md modes call it ρ).bind fun ds ρ => lcE md modes call ws tg cs e ds ρ := rfl
@[simp] theorem ev_pop {i : Nat} : evalE md modes call (.pop i) ρ = popE i ρ ρ[i]? := by
  show (match ρ[i]? with | some (.own (.list l)) => on l.getLast? fun d => Res.ok (EV.val d) (ρ.set i (.own (.list l.dropLast))) | _ => .stuck) = _
  cases ρ[i]? with
  | none => rfl
  | some s =>
    cases s with
    | own d => cases d <;> rfl
    | _ => rfl
@[simp] theorem ep_non : evalP md modes call .non ρ = .ok none ρ := rfl
def intO (ρ : Env) : PyData → Res (Option Int)
  | .int i => .ok (some i) ρ
  | _ => .stuck
@[simp] theorem intO_int {i : Int} : intO ρ (.int i) = .ok (some i) ρ := rfl
@[simp] theorem ep_ex : evalP md modes call (.ex e) ρ = ((evalE md modes call e ρ).bind settle).bind fun d ρ => intO ρ d := by
  refine bind_ext fun d ρ => ?_
  cases d <;> rfl
@[simp] theorem evs_nil : evalVs md modes call [] ρ = .ok [] ρ := rfl
@[simp] theorem evs_cons : evalVs md modes call (e :: es) ρ = ((evalE md modes call e ρ).bind settle).bind fun d ρ => (evalVs md modes call es ρ).bind fun ds ρ => .ok (d :: ds) ρ := rfl
@[simp] theorem ers_nil : evalRs md modes call [] ρ = .ok [] ρ := rfl
@[simp] theorem ers_cons : evalRs md modes call (e :: es) ρ = (evalE md modes call e ρ).bind fun x ρ => (evalRs md modes call es ρ).bind fun xs ρ => .ok (toR x :: xs) ρ := rfl
@[simp] theorem eas_nil {ms : List Bool} : evalAs md modes call ms [] ρ = .ok [] ρ := rfl
@[simp] theorem eas_cons {ms : List Bool} : evalAs md modes call ms (e :: es) ρ = ((evalE md modes call e ρ).bind (asArg (ms.head?.getD false))).bind fun a ρ => (evalAs md modes call ms.tail es ρ).bind fun r ρ => .ok (a :: r) ρ := rfl
@[simp] theorem ecs_nil : evalCs md modes call [] ρ = .ok true ρ := rfl
@[simp] theorem ecs_cons : evalCs md modes call (e :: es) ρ = (evalE md modes call e ρ).bind fun x ρ => on ((deref ρ (toR x)).bind truthy) fun k => if k = true then evalCs md modes call es ρ else .ok false ρ := rfl
@[simp] theorem ei_ex : evalI md modes call (.ex e) ρ = ((evalE md modes call e ρ).bind settle).bind fun d ρ => ofO (itemsD d) ρ := rfl
def rangeO (ρ : Env) : PyData → PyData → Res (List PyData)
  | .int i, .int j => ofO (rangeD i j) ρ
  | _, _ => .stuck
@[simp] theorem rangeO_int {i j : Int} : rangeO ρ (.int i) (.int j) = ofO (rangeD i j) ρ := rfl
@[simp] theorem ei_range1 : evalI md modes call (.range1 e) ρ = ((evalE md modes call e ρ).bind settle).bind fun d ρ => rangeO ρ (.int 0) d := by
  refine bind_ext fun d ρ => ?_
  cases d <;> rfl
@[simp] theorem ei_range2 : evalI md modes call (.range2 a b) ρ = ((evalE md modes call a ρ).bind settle).bind fun d ρ => ((evalE md modes call b ρ).bind settle).bind fun d' ρ => rangeO ρ d d' := by
  refine bind_ext fun d ρ => bind_ext fun d' ρ => ?_
  cases d <;> cases d' <;> rfl
@[simp] theorem asArg_val {m : Bool} {d : PyData} : asArg m (.val d) ρ = .ok (.dat d) ρ := by cases m <;> rfl
@[simp] theorem asArg_fr {m : Bool} {d : PyData} : asArg m (.fr d) ρ = .ok (.dat d) ρ := by cases m <;> rfl
@[simp] theorem asArg_sl {i : Nat} : asArg true (.al i) ρ = .ok (.sl i) ρ := rfl
@[simp] theorem asArg_al {i : Nat} : asArg false (.al i) ρ = (setE i ρ ρ[i]?).bind fun d ρ => .ok (.dat d) ρ := by
  show (settle (.al i) ρ).bind _ = _
  rw [settle_al]
@[simp] theorem argSlots_nil : argSlots ρ [] = some [] := rfl
@[simp] theorem argSlots_dat {d : PyData} {r : List AV} : argSlots ρ (.dat d :: r) = (argSlots ρ r).map (.val d :: ·) := rfl
def argOne (r : List AV) (i : Nat) (o : Option (List Slot)) : Option Slot → Option (List Slot)
  | some (.own d) => if (r.any fun a => match a with | .sl j => i == j | _ => false) = true then none else o.map (.own d :: ·)
  | some (.val d) => o.map (.val d :: ·)
  | _ => none
@[simp] theorem argOne_val {r : List AV} {i : Nat} {o : Option (List Slot)} {d : PyData} : argOne r i o (some (.val d)) = o.map (.val d :: ·) := rfl
@[simp] theorem argOne_own {r : List AV} {i : Nat} {o : Option (List Slot)} {d : PyData} : argOne r i o (some (.own d)) = if (r.any fun a => match a with | .sl j => i == j | _ => false) = true then none else o.map (.own d :: ·) := rfl
@[simp] theorem argSlots_sl {i : Nat} {r : List AV} : argSlots ρ (.sl i :: r) = argOne r i (argSlots ρ r) ρ[i]? := by
  show (match ρ[i]? with
    | some (Slot.own d) => if (r.any fun a => match a with | .sl j => i == j | _ => false) = true then none else (argSlots ρ r).map (Slot.own d :: ·)
    | some (.val d) => (argSlots ρ r).map (.val d :: ·)
    | _ => none) = _
  cases ρ[i]? with
  | none => rfl
  | some s => cases s <;> rfl
@[simp] theorem putBack_nil {outs : List Slot} : putBack [] outs ρ = ρ := by cases outs <;> rfl
@[simp] theorem putBack_dat {d : PyData} {r : List AV} {s : Slot} {outs : List Slot} : putBack (.dat d :: r) (s :: outs) ρ = putBack r outs ρ := rfl
def putOne (i : Nat) (s : Slot) (ρ : Env) : Option Slot → Env
  | some (.own _) => ρ.set i s
  | _ => ρ
@[simp] theorem putOne_own {i : Nat} {s : Slot} {d : PyData} : putOne i s ρ (some (.own d)) = ρ.set i s := rfl
@[simp] theorem putOne_val {i : Nat} {s : Slot} {d : PyData} : putOne i s ρ (some (.val d)) = ρ := rfl
@[simp] theorem putBack_sl {i : Nat} {r : List AV} {s : Slot} {outs : List Slot} : putBack (.sl i :: r) (s :: outs) ρ = putBack r outs (putOne i s ρ ρ[i]?) := by
  show putBack r outs (match ρ[i]? with | some (.own _) => ρ.set i s | _ => ρ) = _
  cases ρ[i]? with
  | none => rfl
  | some s => cases s <;> rfl
end
@[simp] theorem isOwn_def {ρ : Env} {i : Nat} {d : PyData} (h : ρ[i]? = some (.own d)) : isOwn ρ i = true := by unfold isOwn; rw [h]
@[simp] theorem wipeS_nil {ρ : Env} : wipeS [] ρ = ρ := rfl
@[simp] theorem wipeS_cons {w : Nat} {r : List Nat} {ρ : Env} : wipeS (w :: r) ρ = (wipeS r ρ).set w .un := rfl
@[simp] theorem restore_nil {ρ ρ' : Env} : restore [] ρ ρ' = ρ' := rfl
@[simp] theorem restore_cons {w : Nat} {r : List Nat} {ρ ρ' : Env} : restore (w :: r) ρ ρ' = (restore r ρ ρ').set w ((ρ[w]?).getD .un) := rfl
@[simp] theorem setAll_nil {ρ : Env} : setAll [] [] ρ = some ρ := rfl
@[simp] theorem setAll_cons {i : Nat} {is : List Nat} {d : PyData} {ds : List PyData} {ρ : Env} : setAll (i :: is) (d :: ds) ρ = setAll is ds (ρ.set i (.val d)) := rfl
@[simp] theorem assignT_n {md : List Bool} {i : Nat} {d : PyData} {ρ : Env} : assignT md (.n i) d ρ = if free md i = true then some (ρ.set i (.val d)) else none := rfl
@[simp] theorem assignT_tup {md : List Bool} {is : List Nat} {ds : List PyData} {ρ : Env} : assignT md (.t is) (.tuple ds) ρ = if is.all (free md) = true then setAll is ds ρ else none := rfl
@[simp] theorem assignT_lst {md : List Bool} {is : List Nat} {ds : List PyData} {ρ : Env} : assignT md (.t is) (.list ds) ρ = if is.all (free md) = true then setAll is ds ρ else none := rfl
section
variable {W : Nat} {md : List Bool} {modes : Nat → List Bool} {call : Calls} {ρ : Env} {a b c e : ME} {es : List ME} {s : MS} {ss tt : List MS}
@[simp] theorem et_def : evalT md modes call c ρ = (evalE md modes call c ρ).bind fun x ρ => on ((deref ρ (toR x)).bind truthy) fun b => .ok b ρ := rfl
def seqF (k : Env → Res Fl) (f : Fl) (ρ : Env) : Res Fl := match f with
  | .nx => k ρ
  | f => .ok f ρ
@[simp] theorem seqF_nx {k : Env → Res Fl} : seqF k .nx ρ = k ρ := rfl
@[simp] theorem seqF_ret {k : Env → Res Fl} {x : EV} : seqF k (.ret x) ρ = .ok (.ret x) ρ := rfl
@[simp] theorem seqF_brk {k : Env → Res Fl} : seqF k .brk ρ = .ok .brk ρ := rfl
@[simp] theorem seqF_cnt {k : Env → Res Fl} : seqF k .cnt ρ = .ok .cnt ρ := rfl
@[simp] theorem xs_nil : execSs W md modes call [] ρ = .ok .nx ρ := rfl
@[simp] theorem xs_cons : execSs W md modes call (s :: ss) ρ = (execS W md modes call s ρ).bind fun f ρ => seqF (execSs W md modes call ss) f ρ := by
  refine bind_ext fun f ρ => ?_
  cases f <;> rfl
@[simp] theorem x_expr : execS W md modes call (.expr e) ρ = (evalE md modes call e ρ).bind fun _ ρ => .ok .nx ρ := rfl
@[simp] theorem x_set {i : Nat} : execS W md modes call (.set i e) ρ = if free md i = true then ((evalE md modes call e ρ).bind still).bind fun x ρ => (putS i x ρ).bind fun _ ρ => .ok .nx ρ else .stuck := rfl
@[simp] theorem x_unpack {is : List Nat} : execS W md modes call (.unpack is e) ρ = ((evalE md modes call e ρ).bind settle).bind fun d ρ => on (assignT md (.t is) d ρ) fun ρ => .ok .nx ρ := rfl
@[simp] theorem x_par {i j : Nat} : execS W md modes call (.par i j a b) ρ = if free md i = true ∧ free md j = true then ((evalE md modes call a ρ).bind still).bind fun x ρ => ((evalE md modes call b ρ).bind still).bind fun y ρ =>
      (putS i x ρ).bind fun _ ρ => (putS j y ρ).bind fun _ ρ => .ok .nx ρ
    else .stuck := rfl
def putE (i : Nat) (d : PyData) (ρ : Env) (n : PyData) (o : Option Slot) : Res Fl := match n, o with
  | .int n, some (.own (.list l)) => on (L2.ixN l.length n) fun j => .ok .nx (ρ.set i (.own (.list (l.set j d))))
  | _, _ => .stuck
@[simp] theorem putE_int {i : Nat} {d : PyData} {n : Int} {l : List PyData} : putE i d ρ (.int n) (some (.own (.list l))) = on (L2.ixN l.length n) fun j => .ok .nx (ρ.set i (.own (.list (l.set j d)))) := rfl
@[simp] theorem x_put {i : Nat} : execS W md modes call (.put i a e) ρ = ((evalE md modes call e ρ).bind settle).bind fun d ρ => if isOwn ρ i = true then ((evalE md modes call a ρ).bind settle).bind fun n ρ => putE i d ρ n ρ[i]? else .stuck := by
  refine bind_ext fun d ρ => ?_
  show (if isOwn ρ i = true then ((evalE md modes call a ρ).bind settle).bind _ else _) = _
  refine ite_congr rfl (fun _ => bind_ext fun n ρ => ?_) fun _ => rfl
  cases n with
  | int n =>
    cases ρ[i]? with
    | none => rfl
    | some s =>
      cases s with
      | own d => cases d <;> rfl
      | _ => rfl
  | _ => rfl
def appE (i : Nat) (d : PyData) (ρ : Env) : Option Slot → Res Fl
  | some (.own (.list l)) => if l.length < szl then .ok .nx (ρ.set i (.own (.list (l ++ [d])))) else .stuck
  | _ => .stuck
@[simp] theorem appE_own {i : Nat} {d : PyData} {l : List PyData} : appE i d ρ (some (.own (.list l))) = if l.length < szl then .ok .nx (ρ.set i (.own (.list (l ++ [d])))) else .stuck := rfl
@[simp] theorem x_app {i : Nat} : execS W md modes call (.app i e) ρ = if isOwn ρ i = true then ((evalE md modes call e ρ).bind settle).bind fun d ρ => appE i d ρ ρ[i]? else .stuck := by
  show (if isOwn ρ i = true then ((evalE md modes call e ρ).bind settle).bind _ else _) = _
  refine ite_congr rfl (fun _ => bind_ext fun d ρ => ?_) fun _ => rfl
  cases ρ[i]? with
  | none => rfl
  | some s =>
    cases s with
    | own d => cases d <;> rfl
    | _ => rfl
def augE (i : Nat) (o : BOp) (r : Env → Res PyData) (ρ : Env) : Option Slot → Res Fl
  | some (.val x) => (r ρ).bind fun y ρ => on (augD o x y) fun z => .ok .nx (ρ.set i (.val z))
  | _ => .stuck
@[simp] theorem augE_val {i : Nat} {o : BOp} {r : Env → Res PyData} {x : PyData} : augE i o r ρ (some (.val x)) = (r ρ).bind fun y ρ => on (augD o x y) fun z => .ok .nx (ρ.set i (.val z)) := rfl
@[simp] theorem x_aug {i : Nat} {o : BOp} : execS W md modes call (.aug i o e) ρ = if free md i = true then augE i o (fun ρ => (evalE md modes call e ρ).bind settle) ρ ρ[i]? else .stuck := by
  refine ite_congr rfl (fun _ => ?_) fun _ => rfl
  cases ρ[i]? with
  | none => rfl
  | some s => cases s <;> rfl
@[simp] theorem x_ret : execS W md modes call (.ret e) ρ = (evalE md modes call e ρ).bind fun x ρ => .ok (.ret x) ρ := rfl
@[simp] theorem x_ite : execS W md modes call (.ite c ss tt) ρ = (evalT md modes call c ρ).bind fun k ρ => if k = true then execSs W md modes call ss ρ else execSs W md modes call tt ρ := rfl
@[simp] theorem x_while : execS W md modes call (.while c ss) ρ = whileE W md modes call c ss W ρ := rfl
@[simp] theorem x_for {tg : Tg} {it : MI} : execS W md modes call (.for tg it ss) ρ = (evalI md modes call it ρ).bind fun ds ρ => forE W md modes call tg ss ds ρ := rfl
@[simp] theorem x_pass : execS W md modes call .pass ρ = .ok .nx ρ := rfl
@[simp] theorem x_brk : execS W md modes call .brk ρ = .ok .brk ρ := rfl
@[simp] theorem x_cont : execS W md modes call .cont ρ = .ok .cnt ρ := rfl
/-- a loop's turn behind its body -/
def turn (k : Env → Res Fl) (f : Fl) (ρ : Env) : Res Fl := match f with
  | .nx => k ρ
  | .cnt => k ρ
  | .brk => .ok .nx ρ
  | .ret e => .ok (.ret e) ρ
@[simp] theorem turn_nx {k : Env → Res Fl} : turn k .nx ρ = k ρ := rfl
@[simp] theorem turn_cnt {k : Env → Res Fl} : turn k .cnt ρ = k ρ := rfl
@[simp] theorem turn_brk {k : Env → Res Fl} : turn k .brk ρ = .ok .nx ρ := rfl
@[simp] theorem turn_ret {k : Env → Res Fl} {x : EV} : turn k (.ret x) ρ = .ok (.ret x) ρ := rfl
theorem forE_nil {tg : Tg} : forE W md modes call tg ss [] ρ = .ok .nx ρ := rfl
theorem forE_cons {tg : Tg} {d : PyData} {ds : List PyData} : forE W md modes call tg ss (d :: ds) ρ = on (assignT md tg d ρ) fun ρ => (execSs W md modes call ss ρ).bind fun f ρ => turn (forE W md modes call tg ss ds) f ρ := by
  refine on_ext fun ρ => bind_ext fun f ρ => ?_
  cases f <;> rfl
theorem whileE_succ {n : Nat} : whileE W md modes call c ss (n + 1) ρ = (evalT md modes call c ρ).bind fun b ρ => if b = true then (execSs W md modes call ss ρ).bind fun f ρ => turn (whileE W md modes call c ss n) f ρ else .ok .nx ρ := by
  refine bind_ext fun b ρ => ite_congr rfl (fun _ => bind_ext fun f ρ => ?_) fun _ => rfl
  cases f <;> rfl
end
/-- a def's end -/
def finR (np : Nat) : Res Fl → CRes
  | .ok .nx ρ => back np (.val .none) ρ
  | .ok (.ret e) ρ => back np e ρ
  | .exc x ρ => outs np ρ (.exc x)
  | _ => .stuck
@[simp] theorem finR_nx {np : Nat} {ρ : Env} : finR np (.ok .nx ρ) = back np (.val .none) ρ := rfl
@[simp] theorem finR_ret {np : Nat} {ρ : Env} {e : EV} : finR np (.ok (.ret e) ρ) = back np e ρ := rfl
theorem runF_eq {W : Nat} {modes : Nat → List Bool} {call : Calls} {fd : FD} {ss : List Slot} (h : ss.length = fd.np) : runF W modes call fd ss = finR fd.np (execSs W fd.md modes call fd.body (ss ++ List.replicate (fd.ns - fd.np) .un)) := by
  unfold runF
  rw [if_pos h]
  cases execSs W fd.md modes call fd.body (ss ++ List.replicate (fd.ns - fd.np) .un) with
  | ok f ρ => cases f <;> rfl
  | _ => rfl
theorem callF_eq {W k f : Nat} {T : List FD} {fd : FD} {ss : List Slot} (h : T[f]? = some fd) (h2 : ss.length = fd.np) : callF W T (k + 1) f ss = finR fd.np (execSs W fd.md (fun g => ((T[g]?).map (fun (x : FD) => x.md)).getD []) (callF W T k) fd.body (ss ++ List.replicate (fd.ns - fd.np) .un)) := by
  show (match T[f]? with | some (fd : FD) => runF W (fun g => ((T[g]?).map (fun (x : FD) => x.md)).getD []) (callF W T k) fd ss | none => .stuck) = _
  rw [h]
  exact runF_eq h2
def backA (np i : Nat) (ρ : Env) : Option Slot → CRes
  | some (.own d) => if i < np then outs np (ρ.set i (.val d)) (.ok (.val d)) else outs np ρ (.ok (.fr d))
  | some (.val d) => outs np ρ (.ok (.val d))
  | _ => .stuck
@[simp] theorem backA_own {np i : Nat} {ρ : Env} {d : PyData} : backA np i ρ (some (.own d)) = if i < np then outs np (ρ.set i (.val d)) (.ok (.val d)) else outs np ρ (.ok (.fr d)) := rfl
@[simp] theorem backA_val {np i : Nat} {ρ : Env} {d : PyData} : backA np i ρ (some (.val d)) = outs np ρ (.ok (.val d)) := rfl
@[simp] theorem back_val {np : Nat} {ρ : Env} {d : PyData} : back np (.val d) ρ = outs np ρ (.ok (.val d)) := rfl
@[simp] theorem back_fr {np : Nat} {ρ : Env} {d : PyData} : back np (.fr d) ρ = outs np ρ (.ok (.fr d)) := rfl
@[simp] theorem back_al {np i : Nat} {ρ : Env} : back np (.al i) ρ = backA np i ρ ρ[i]? := by
  unfold back
  by_cases h : i < np
  · simp only [if_pos h]
    rw [settle_al]
    cases ρ[i]? with
    | none => rfl
    | some s =>
      cases s with
      | own d => show outs np (ρ.set i (.val d)) (.ok (.val d)) = if i < np then _ else _; rw [if_pos h]
      | _ => rfl
  · simp only [if_neg h]
    cases ρ[i]? with
    | none => rfl
    | some s =>
      cases s with
      | own d => show outs np ρ (.ok (.fr d)) = if i < np then _ else _; rw [if_neg h]
      | _ => rfl
@[simp] theorem outs_def {np : Nat} {ρ : Env} {f : List Slot → CRes} : outs np ρ f = if np ≤ ρ.length ∧ (ρ.take np).all isVal = true then f (ρ.take np) else .stuck := rfl
@[simp] theorem isVal_val {d : PyData} : isVal (.val d) = true := rfl
@[simp] theorem isVal_own {d : PyData} : isVal (.own d) = true := rfl
/-! ### data -/
@[simp] theorem szl_val : szl = 16777216 := rfl
@[simp] theorem tru_bool {b : Bool} : truthy (.bool b) = some b := rfl
@[simp] theorem tru_int {i : Int} : truthy (.int i) = some (i != 0) := rfl
@[simp] theorem tru_list {l : List PyData} : truthy (.list l) = some (!l.isEmpty) := rfl
@[simp] theorem tru_tuple {l : List PyData} : truthy (.tuple l) = some (!l.isEmpty) := rfl
@[simp] theorem tru_none : truthy .none = some false := rfl
@[simp] theorem bin_add {a b : Int} : binD .add (.int a) (.int b) = some (.val (.int (a + b))) := rfl
@[simp] theorem bin_sub {a b : Int} : binD .sub (.int a) (.int b) = some (.val (.int (a - b))) := rfl
theorem bin_mulR {a b : Int} (h : -(2 ^ 64) < b ∧ b < 2 ^ 64) : binD .mul (.int a) (.int b) = some (.val (.int (a * b))) := if_pos (.inr h)
theorem bin_mulL {a b : Int} (h : -(2 ^ 64) < a ∧ a < 2 ^ 64) : binD .mul (.int a) (.int b) = some (.val (.int (a * b))) := if_pos (.inl h)
@[simp] theorem bin_fdiv {a b : Int} (h : 0 < b) (h2 : b < 1073741824) : binD .fdiv (.int a) (.int b) = some (.val (.int (a / b))) := if_pos ⟨h, h2⟩
@[simp] theorem bin_mod {a b : Int} (h : 0 < b) : binD .mod (.int a) (.int b) = some (.val (.int (a % b))) := if_pos h
@[simp] theorem bin_pow {a b : Int} (h : 0 ≤ b) (h2 : b ≤ 1000000) (h3 : a.natAbs < 18446744073709551616) : binD .pow (.int a) (.int b) = some (.val (.int (a ^ b.toNat))) := if_pos ⟨h, h2, h3⟩
@[simp] theorem bin_addT {a b : List PyData} : binD .add (.tuple a) (.tuple b) = if a.length + b.length ≤ szl then some (.val (.tuple (a ++ b))) else none := rfl
@[simp] theorem bin_addL {a b : List PyData} : binD .add (.list a) (.list b) = if a.length + b.length ≤ szl then some (.fr (.list (a ++ b))) else none := rfl
theorem eqD_of {a b : PyData} (h : eqT a b = none) (h1 : a.canLay0 = true) (h2 : b.canLay0 = true) (h3 : min a.depth b.depth ≤ 64) : eqD a b = some (PyData.eqv a b) := by
  unfold eqD
  rw [h]
  exact if_pos ⟨h1, h2, h3⟩
@[simp] theorem eq_int {a b : Int} : eqD (.int a) (.int b) = some (decide (a = b)) := eqD_of rfl rfl rfl (by show min 0 0 ≤ 64; decide)
@[simp] theorem eq_bool {a b : Bool} : eqD (.bool a) (.bool b) = some (a == b) := eqD_of rfl rfl rfl (by show min 0 0 ≤ 64; decide)
@[simp] theorem eq_str {a b : Str} : eqD (.str a) (.str b) = some (a == b) := rfl
@[simp] theorem c_eq {a b : PyData} : cmpD .eq a b = eqD a b := by cases a <;> cases b <;> rfl
@[simp] theorem c_ne {a b : PyData} : cmpD .ne a b = (eqD a b).map (!·) := by cases a <;> cases b <;> rfl
@[simp] theorem c_lt {a b : Int} : cmpD .lt (.int a) (.int b) = some (decide (a < b)) := rfl
@[simp] theorem c_le {a b : Int} : cmpD .le (.int a) (.int b) = some (decide (a ≤ b)) := rfl
@[simp] theorem c_gt {a b : Int} : cmpD .gt (.int a) (.int b) = some (decide (b < a)) := rfl
@[simp] theorem c_ge {a b : Int} : cmpD .ge (.int a) (.int b) = some (decide (b ≤ a)) := rfl
@[simp] theorem c_in {a b : PyData} : cmpD .isin a b = inD a b := by cases a <;> cases b <;> rfl
@[simp] theorem c_notin {a b : PyData} : cmpD .notin a b = (inD a b).map (!·) := by cases a <;> cases b <;> rfl
@[simp] theorem c_is {a b : PyData} : cmpD .is a b = isD a b := by cases a <;> cases b <;> rfl
@[simp] theorem c_isnot {a b : PyData} : cmpD .isnot a b = (isD a b).map (!·) := by cases a <;> cases b <;> rfl
@[simp] theorem is_none {a : PyData} : isD a .none = some (isNone a) := by cases a <;> rfl
@[simp] theorem is_bool {a b : Bool} : isD (.bool a) (.bool b) = some (a == b) := rfl
theorem atI_pos {α : Type} {l : List α} {i : Int} (h : 0 ≤ i) : L2.atI l i = l[i.toNat]? := by
  unfold L2.atI L2.ixN
  rw [if_pos h]
  by_cases h2 : i < l.length
  · rw [if_pos h2]
    rfl
  · rw [if_neg h2, List.getElem?_eq_none (by omega)]
    rfl
@[simp] theorem idx_list {l : List PyData} {i : Int} (h : 0 ≤ i) : idxD (.list l) (.int i) = l[i.toNat]? := atI_pos h
@[simp] theorem idx_tuple {l : List PyData} {i : Int} (h : 0 ≤ i) : idxD (.tuple l) (.int i) = l[i.toNat]? := atI_pos h
@[simp] theorem ixN_pos {n : Nat} {i : Int} (h : 0 ≤ i) (h2 : i < n) : L2.ixN n i = some i.toNat := by
  unfold L2.ixN
  rw [if_pos h, if_pos h2]
@[simp] theorem len_list {l : List PyData} : bltD .len [.list l] = some (.val (.int l.length)) := rfl
@[simp] theorem len_tuple {l : List PyData} : bltD .len [.tuple l] = some (.val (.int l.length)) := rfl
@[simp] theorem int_int {i : Int} : bltD .int [.int i] = some (.val (.int i)) := rfl
@[simp] theorem abs_int {i : Int} : bltD .abs [.int i] = some (.val (.int (if i < 0 then -i else i))) := rfl
@[simp] theorem tup_list {l : List PyData} : bltD .tuple [.list l] = some (.val (.tuple l)) := rfl
@[simp] theorem tup_tuple {l : List PyData} : bltD .tuple [.tuple l] = some (.val (.tuple l)) := rfl
@[simp] theorem all_list {l : List PyData} : bltD .all [.list l] = (boolsOf l).map fun bs => .val (.bool (bs.all id)) := rfl
@[simp] theorem itm_list {l : List PyData} : itemsD (.list l) = some l := rfl
@[simp] theorem itm_tuple {l : List PyData} : itemsD (.tuple l) = some l := rfl
@[simp] theorem rev_list {l : List PyData} : revD (.list l) = some (.fr (.list l.reverse)) := rfl
@[simp] theorem rev_tuple {l : List PyData} : revD (.tuple l) = some (.val (.tuple l.reverse)) := rfl
@[simp] theorem free_def {md : List Bool} {i : Nat} : free md i = ((md[i]?).getD false == false) := rfl
/-! ### loops -/
/-- a comprehension without tests, whose element is told -/
theorem comp_map {as : PyData → Env → Res Bool} {elt : Env → Res PyData} {wp : Env → Env} {f : PyData → PyData} {ρ : Env} : ∀ {ds acc : List PyData}, acc.length + ds.length ≤ szl → (∀ d ∈ ds, ∃ ρ1, as d ρ = .ok true ρ1 ∧ ∃ ρ2, elt ρ1 = .ok (f d) ρ2 ∧ wp ρ2 = ρ) → compL as elt wp ds acc ρ = .ok (acc ++ ds.map f) ρ
  | [], acc, _, _ => by
    show Res.ok acc ρ = _
    rw [List.map_nil, List.append_nil]
  | d :: ds, acc, hl, h => by
    obtain ⟨ρ1, e1, ρ2, e2, e3⟩ := h d (List.mem_cons_self ..)
    show (as d ρ).bind _ = _
    rw [e1]
    show (elt ρ1).bind _ = _
    rw [e2]
    have hl' : acc.length + (ds.length + 1) ≤ szl := hl
    show (if acc.length < szl then compL as elt wp ds (acc ++ [f d]) (wp ρ2) else .stuck) = _
    rw [if_pos (by omega), e3, comp_map (by rw [List.length_append, List.length_singleton]; omega) fun d hd => h d (List.mem_cons_of_mem _ hd)]
    rw [List.append_assoc]
    rfl
/-- a list of elements that are told -/
theorem lc_map {md : List Bool} {modes : Nat → List Bool} {call : Calls} {ws : List Nat} {tg : Tg} {e : ME} {ds : List PyData} {ρ ρ0 ρ' : Env} (f : PyData → PyData) (hw : ws.all (free md) = true) (hl : ds.length ≤ szl) (h0 : wipeS ws ρ = ρ0) (hr : restore ws ρ ρ0 = ρ')
    (h : ∀ d ∈ ds, ∃ ρ1, assignT md tg d ρ0 = some ρ1 ∧ ∃ ρ2, (evalE md modes call e ρ1).bind settle = .ok (f d) ρ2 ∧ wipeS ws ρ2 = ρ0) : lcE md modes call ws tg [] e ds ρ = .ok (.fr (.list (ds.map f))) ρ' := by
  subst h0 hr
  unfold lcE
  rw [if_pos hw, comp_map (f := f) (ρ := wipeS ws ρ) (by simpa using hl) fun d hd => ?_]
  · rfl
  · obtain ⟨ρ1, e1, ρ2, e2, e3⟩ := h d hd
    refine ⟨ρ1, ?_, ρ2, e2, e3⟩
    rw [e1]
    rfl
/-- .. of elements whose reading changes what it stands over -/
theorem comp_run {as : PyData → Env → Res Bool} {elt : Env → Res PyData} {wp : Env → Env} (I : List PyData → Env → Prop) : ∀ {ds acc : List PyData} {ρ : Env}, acc.length + ds.length ≤ szl → I acc ρ →
    (∀ d ∈ ds, ∀ acc ρ, I acc ρ → ∃ ρ1, as d ρ = .ok true ρ1 ∧ ∃ y ρ2, elt ρ1 = .ok y ρ2 ∧ I (acc ++ [y]) (wp ρ2)) → ∃ l ρ', compL as elt wp ds acc ρ = .ok l ρ' ∧ I l ρ' ∧ l.length = acc.length + ds.length
  | [], acc, ρ, _, h0, _ => ⟨acc, ρ, rfl, h0, rfl⟩
  | d :: ds, acc, ρ, hl, h0, h => by
    obtain ⟨ρ1, e1, y, ρ2, e2, i2⟩ := h d (List.mem_cons_self ..) acc ρ h0
    have hl' : acc.length + (ds.length + 1) ≤ szl := hl
    obtain ⟨l, ρ', e3, i3, n3⟩ := comp_run I (ds := ds) (acc := acc ++ [y]) (ρ := wp ρ2) (by rw [List.length_append, List.length_singleton]; omega) i2 fun d hd => h d (List.mem_cons_of_mem _ hd)
    refine ⟨l, ρ', ?_, i3, by rw [n3, List.length_append, List.length_singleton, List.length_cons]; omega⟩
    show (as d ρ).bind _ = _
    rw [e1]
    show (elt ρ1).bind _ = _
    rw [e2]
    show (if acc.length < szl then compL as elt wp ds (acc ++ [y]) (wp ρ2) else .stuck) = _
    rw [if_pos (by omega), e3]
theorem lc_run {md : List Bool} {modes : Nat → List Bool} {call : Calls} {ws : List Nat} {tg : Tg} {e : ME} {ds : List PyData} {ρ : Env} (I : List PyData → Env → Prop) (hw : ws.all (free md) = true) (hl : ds.length ≤ szl) (h0 : I [] (wipeS ws ρ))
    (h : ∀ d ∈ ds, ∀ acc ρ, I acc ρ → ∃ ρ1, assignT md tg d ρ = some ρ1 ∧ ∃ y ρ2, (evalE md modes call e ρ1).bind settle = .ok y ρ2 ∧ I (acc ++ [y]) (wipeS ws ρ2)) : ∃ l ρ', lcE md modes call ws tg [] e ds ρ = .ok (.fr (.list l)) (restore ws ρ ρ') ∧ I l ρ' ∧ l.length = ds.length := by
  obtain ⟨l, ρ', e1, i1, n1⟩ := comp_run (as := fun d ρ => on (assignT md tg d ρ) fun ρ => evalCs md modes call [] ρ) (elt := fun ρ => (evalE md modes call e ρ).bind settle) (wp := wipeS ws) I (ds := ds) (acc := []) (by simpa using hl) h0 fun d hd acc ρ i => by
    obtain ⟨ρ1, e1, y, ρ2, e2, i2⟩ := h d hd acc ρ i
    refine ⟨ρ1, ?_, y, ρ2, e2, i2⟩
    rw [e1]
    rfl
  refine ⟨l, ρ', ?_, i1, by simpa using n1⟩
  unfold lcE
  rw [if_pos hw, e1]
  rfl
/-- a for whose turns keep what is said -/
theorem for_run {W : Nat} {md : List Bool} {modes : Nat → List Bool} {call : Calls} {tg : Tg} {ss : List MS} (I : Nat → Env → Prop) : ∀ {ds : List PyData} {n : Nat} {ρ : Env}, I n ρ →
    (∀ (j : Nat) d ρ, ds[j]? = some d → I (n + j) ρ → ∃ ρ1, assignT md tg d ρ = some ρ1 ∧ ∃ ρ2, execSs W md modes call ss ρ1 = .ok .nx ρ2 ∧ I (n + j + 1) ρ2) → ∃ ρ', forE W md modes call tg ss ds ρ = .ok .nx ρ' ∧ I (n + ds.length) ρ'
  | [], n, ρ, h0, _ => ⟨ρ, rfl, h0⟩
  | d :: ds, n, ρ, h0, h => by
    obtain ⟨ρ1, e1, ρ2, e2, i2⟩ := h 0 d ρ rfl h0
    obtain ⟨ρ', e3, i3⟩ := for_run I (ds := ds) (n := n + 1) (ρ := ρ2) i2 fun j d ρ hj i => by
      have e : n + 1 + j = n + (j + 1) := by omega
      rw [e] at i ⊢
      exact h (j + 1) d ρ hj i
    refine ⟨ρ', ?_, by
      have e : n + (d :: ds).length = n + 1 + ds.length := by rw [List.length_cons]; omega
      rw [e]
      exact i3⟩
    rw [forE_cons, e1]
    show (execSs W md modes call ss ρ1).bind _ = _
    rw [e2]
    exact e3
theorem boolsOf_map {α : Type} (g : α → Bool) : ∀ l : List α, boolsOf (l.map fun x => .bool (g x)) = some (l.map g)
  | [] => rfl
  | x :: l => by
    show (boolsOf (l.map fun x => .bool (g x))).map _ = _
    rw [boolsOf_map g l]
    rfl
theorem range_nat {n : Nat} (h : n ≤ 1000000) : rangeD 0 (n : Int) = some ((List.range n).map fun (j : Nat) => PyData.int (j : Int)) := by
  unfold rangeD small
  rw [if_pos ⟨by decide, by simp; omega⟩]
  simp
mutual
/-- data without dicts, of short lists -/
def nice : PyData → Bool
  | .list l => decide (l.length ≤ 1000) && niceAll l
  | .tuple l => decide (l.length ≤ 1000) && niceAll l
  | .dict _ => false
  | _ => true
def niceAll : List PyData → Bool
  | [] => true
  | x :: l => nice x && niceAll l
end
theorem niceAll_mem : ∀ {l : List PyData} {x : PyData}, niceAll l = true → x ∈ l → nice x = true
  | y :: l, x, h, m => by
    have h : (nice y && niceAll l) = true := h
    rw [Bool.and_eq_true] at h
    rcases List.mem_cons.mp m with rfl | m
    · exact h.1
    · exact niceAll_mem h.2 m
theorem depthAll_mem : ∀ {l : List PyData} {x : PyData}, x ∈ l → x.depth ≤ PyData.depthAll l
  | y :: l, x, m => by
    show _ ≤ max y.depth (PyData.depthAll l)
    rcases List.mem_cons.mp m with rfl | m
    · omega
    · have := depthAll_mem m
      omega
end Dn
/-! the law alloftype_k02_whole_parts_and_ends: its text by places, what its defs compute, the walk -/
namespace Law
open PySem PySem.Spec PyProof.Rows L2 Dn
abbrev prog := PySem.Challenge.pw_alloftype_k02_whole_parts_and_ends
def top (i : Nat) : Stmt := PySem.Challenge.pw_alloftype_k02_whole_parts_and_ends.main.body.getD i (.Pass ⟨0, 0, 0, 0⟩)
/-- law(script) script:0 hand:1 spin:2 kind:3 row:4 entire:5 last:6 one:7 spot:8 -/
def b0 : List MS := [.set 1 (.call 1 [.v 0]),
    .ite (.not (.call 2 [])) [.ret (.c (.bool false))] [],
    .for (.n 2) (.range1 (.c (.int 5))) [.set 3 (.call 3 [.v 1, .bin .add (.c (.int 1)) (.call 4 [.v 1, .call 5 [.v 1, .lst [.c (.int 4), .c (.int 10), .c (.int 14)]]])]),
    .ite (.not (.call 6 [.v 3])) [.ret (.c (.bool false))] [],
    .par 4 5 (.lc [8] (.n 8) (.range1 (.call 4 [.v 1, .c (.int 6)])) [] (.call 3 [.v 1, .bin .add (.c (.int 1)) (.call 4 [.v 1, .c (.int 3)])])) (.call 7 [.v 1]),
    .set 6 (.v 5),
    .for (.n 7) (.ex (.rev (.v 4))) [.set 5 (.tup [.v 7, .v 5])],
    .ite (.or (.not (.call 8 [.lst [.call 9 [.v 5], .call 10 [.v 5]], .lst [.blt .tuple [.v 4], .v 6]])) (.not (.call 6 [.v 5]))) [.ret (.c (.bool false))] []],
    .ret (.c (.bool true))]
def fd0 : FD := { np := 1, ns := 9, md := [false], body := b0 }
/-- _law_hand(script) script:0 cells:1 cell:2 -/
def b1 : List MS := [.set 1 (.lc [2] (.n 2) (.ex (.sl (.v 0) .non (.ex (.c (.int 63))))) [] (.blt .abs [.blt .int [.v 2]])),
    .ret (.lst [.v 1, .c (.int 0), .c (.int 0), .bin .add (.c (.int 433)) (.bin .mul (.c (.int 42)) (.blt .len [.v 1])), .c (.int 0)])]
def fd1 : FD := { np := 1, ns := 3, md := [false], body := b1 }
/-- _law_is_known_right() known:0 kind:1 some:2 last:3 -/
def b2 : List MS := [.set 0 (.lst [.tup [.c (.str "a"), .tup [], .c (.str "a")], .tup [.tup [.c (.str "a"), .c (.str "b")], .tup [.c (.str "a")], .c (.str "b")], .tup [.tup [.tup [.c (.str "a"), .c (.str "b")], .c (.str "c")], .tup [.tup [.c (.str "a"), .c (.str "b")]], .c (.str "c")]]),
    .app 0 (.tup [.tup [.c (.str "a"), .tup [.tup [.c (.str "b"), .c (.str "c")], .tup [.c (.str "d"), .c (.str "a")]]], .tup [.c (.str "a"), .tup [.c (.str "b"), .c (.str "c")], .c (.str "d")], .c (.str "a")]),
    .ret (.blt .all [.lc [1, 2, 3] (.t [1, 2, 3]) (.ex (.v 0)) [] (.call 8 [.lst [.call 9 [.v 1], .call 10 [.v 1]], .lst [.v 2, .v 3]])])]
def fd2 : FD := { np := 0, ns := 4, md := [], body := b2 }
/-- _law_kind(hand, limit) hand:0 limit:1 front:2 -/
def b3 : List MS := [.ite (.cmp .lt (.v 1) (.c (.int 2))) [.ret (.call 7 [.v 0])] [],
    .set 2 (.bin .add (.c (.int 1)) (.call 4 [.v 0, .bin .sub (.v 1) (.c (.int 1))])),
    .set 2 (.ite (.cmp .eq (.call 4 [.v 0, .c (.int 2)]) (.c (.int 0))) (.c (.int 1)) (.v 2)),
    .ret (.tup [.call 3 [.v 0, .v 2], .call 3 [.v 0, .bin .sub (.v 1) (.v 2)]])]
def fd3 : FD := { np := 2, ns := 3, md := [true, false], body := b3 }
/-- _law_draw(hand, limit) hand:0 limit:1 cell:2 digit:3 number:4 -/
def b4 : List MS := [.ite (.and (.cmp .eq (.idx (.v 0) (.c (.int 2))) (.c (.int 0))) (.cmp .lt (.idx (.v 0) (.c (.int 1))) (.blt .len [.idx (.v 0) (.c (.int 0))]))) [.set 2 (.idx (.idx (.v 0) (.c (.int 0))) (.idx (.v 0) (.c (.int 1)))),
    .put 0 (.c (.int 1)) (.bin .add (.idx (.v 0) (.c (.int 1))) (.c (.int 1))),
    .put 0 (.c (.int 3)) (.bin .mod (.blt .int [.bin .add (.bin .add (.bin .mul (.idx (.v 0) (.c (.int 3))) (.c (.int 69621))) (.v 2)) (.c (.int 103))]) (.c (.int 2147483629))),
    .ite (.cmp .ge (.v 2) (.bin .pow (.c (.int 10)) (.c (.int 18)))) [.put 0 (.c (.int 2)) (.v 2)] []] [],
    .ite (.cmp .gt (.idx (.v 0) (.c (.int 2))) (.c (.int 0))) [.set 3 (.bin .mod (.blt .int [.idx (.v 0) (.c (.int 2))]) (.v 1)),
    .put 0 (.c (.int 2)) (.bin .fdiv (.idx (.v 0) (.c (.int 2))) (.v 1)),
    .ret (.v 3)] [],
    .put 0 (.c (.int 4)) (.bin .add (.idx (.v 0) (.c (.int 4))) (.c (.int 1))),
    .set 4 (.bin .mod (.blt .int [.bin .mul (.blt .int [.bin .add (.idx (.v 0) (.c (.int 3))) (.bin .mul (.c (.int 7919)) (.idx (.v 0) (.c (.int 4))))]) (.c (.int 48271))]) (.c (.int 2147483647))),
    .set 4 (.bin .mod (.blt .int [.bin .mul (.v 4) (.bin .add (.bin .fdiv (.v 4) (.c (.int 1009))) (.c (.int 69621)))]) (.c (.int 2147483647))),
    .set 4 (.bin .mod (.blt .int [.bin .mul (.v 4) (.bin .add (.bin .fdiv (.v 4) (.c (.int 2003))) (.c (.int 40692)))]) (.c (.int 2147483399))),
    .ret (.bin .mod (.blt .int [.bin .fdiv (.v 4) (.c (.int 16))]) (.v 1))]
def fd4 : FD := { np := 2, ns := 5, md := [true, false], body := b4 }
/-- _law_some(hand, things) hand:0 things:1 -/
def b5 : List MS := [.ret (.idx (.v 1) (.call 4 [.v 0, .blt .len [.v 1]]))]
def fd5 : FD := { np := 2, ns := 2, md := [true, false], body := b5 }
/-- _law_is_right(kind) kind:0 copy:1 told:2 built:3 one:4 -/
def b6 : List MS := [.set 1 (.blt .repr [.v 0]),
    .set 2 (.lst [.call 9 [.v 0], .call 10 [.v 0]]),
    .ite (.or (.not (.call 8 [.v 2, .lst [.blt .tuple [.call 11 [.v 0]], .call 12 [.v 0]]])) (.cmp .ne (.blt .repr [.v 0]) (.v 1))) [.ret (.c (.bool false))] [],
    .ite (.or (.not (.blt .all [.lc [4] (.n 4) (.ex (.idx (.v 2) (.c (.int 0)))) [] (.cmp .is (.call 13 [.v 4]) (.c (.bool true)))])) (.cmp .isnot (.call 13 [.idx (.v 2) (.c (.int 1))]) (.c (.bool true)))) [.ret (.c (.bool false))] [],
    .set 3 (.idx (.v 2) (.c (.int 1))),
    .for (.n 4) (.ex (.rev (.idx (.v 2) (.c (.int 0))))) [.set 3 (.tup [.v 4, .v 3])],
    .ite (.or (.not (.call 8 [.v 3, .v 0])) (.not (.call 8 [.lst [.call 9 [.v 0], .call 10 [.v 0]], .v 2]))) [.ret (.c (.bool false))] [],
    .ite (.isi (.v 0) [.str]) [.ret (.cmp .eq (.v 2) (.lst [.tup [], .v 0]))] [],
    .ret (.call 8 [.lst [.bin .add (.tup [.idx (.v 0) (.c (.int 0))]) (.call 9 [.idx (.v 0) (.c (.int 1))]), .call 10 [.idx (.v 0) (.c (.int 1))]], .v 2])]
def fd6 : FD := { np := 1, ns := 5, md := [false], body := b6 }
/-- _law_atom(hand) hand:0 -/
def b7 : List MS := [.ret (.call 5 [.v 0, .lst [.c (.str "a"), .c (.str "a"), .c (.str "b"), .c (.str "b"), .c (.str "c"), .c (.str "d"), .c (.str "abcdefgh")]])]
def fd7 : FD := { np := 1, ns := 1, md := [true], body := b7 }
/-- _law_is(told, due) told:0 due:1 k:2 -/
def b8 : List MS := [.ite (.isi (.v 1) [.tuple, .list]) [.ite (.or (.cmp .ne (.isi (.v 0) [.tuple]) (.isi (.v 1) [.tuple])) (.cmp .ne (.isi (.v 0) [.list]) (.isi (.v 1) [.list]))) [.ret (.c (.bool false))] [],
    .ite (.cmp .ne (.blt .len [.v 0]) (.blt .len [.v 1])) [.ret (.c (.bool false))] [],
    .ret (.blt .all [.lc [2] (.n 2) (.range1 (.blt .len [.v 1])) [] (.call 8 [.idx (.v 0) (.v 2), .idx (.v 1) (.v 2)])])] [],
    .ite (.cmp .is (.v 1) (.c .none)) [.ret (.cmp .is (.v 0) (.c .none))] [],
    .ite (.or (.cmp .ne (.isi (.v 0) [.bool]) (.isi (.v 1) [.bool])) (.cmp .ne (.isi (.v 0) [.int]) (.isi (.v 1) [.int]))) [.ret (.c (.bool false))] [],
    .ret (.and (.cmp .eq (.isi (.v 0) [.str]) (.isi (.v 1) [.str])) (.cmp .eq (.v 0) (.v 1)))]
def fd8 : FD := { np := 2, ns := 3, md := [false, false], body := b8 }
/-- parts(kind) kind:0 -/
def b9 : List MS := [.expr (.call 14 [.v 0]),
    .ret (.call 15 [.v 0])]
def fd9 : FD := { np := 1, ns := 1, md := [false], body := b9 }
/-- end(kind) kind:0 -/
def b10 : List MS := [.expr (.call 14 [.v 0]),
    .ret (.call 16 [.v 0])]
def fd10 : FD := { np := 1, ns := 1, md := [false], body := b10 }
/-- _law_pieces(kind) kind:0 found:1 -/
def b11 : List MS := [.set 1 (.lst []),
    .while (.not (.isi (.v 0) [.str])) [.app 1 (.idx (.v 0) (.c (.int 0))),
    .set 0 (.idx (.v 0) (.c (.int 1)))],
    .ret (.v 1)]
def fd11 : FD := { np := 1, ns := 2, md := [false], body := b11 }
/-- _law_last(kind) kind:0 -/
def b12 : List MS := [.while (.not (.isi (.v 0) [.str])) [.set 0 (.idx (.v 0) (.c (.int 1)))],
    .ret (.v 0)]
def fd12 : FD := { np := 1, ns := 1, md := [false], body := b12 }
/-- is_kind(thing) thing:0 -/
def b13 : List MS := [.ret (.chain .le .le (.c (.int 1)) (.call 17 [.v 0, .c (.int 15)]) (.c (.int 30)))]
def fd13 : FD := { np := 1, ns := 1, md := [false], body := b13 }
/-- check_kind(thing) thing:0 -/
def b14 : List MS := [.ite (.not (.call 13 [.v 0])) [.raise 0 []] []]
def fd14 : FD := { np := 1, ns := 1, md := [false], body := b14 }
/-- parts_of(kind) kind:0 found:1 -/
def b15 : List MS := [.set 1 (.lst []),
    .while (.not (.call 18 [.v 0])) [.app 1 (.idx (.v 0) (.c (.int 0))),
    .set 0 (.idx (.v 0) (.c (.int 1)))],
    .ret (.blt .tuple [.v 1])]
def fd15 : FD := { np := 1, ns := 2, md := [false], body := b15 }
/-- end_of(kind) kind:0 -/
def b16 : List MS := [.while (.not (.call 18 [.v 0])) [.set 0 (.idx (.v 0) (.c (.int 1)))],
    .ret (.v 0)]
def fd16 : FD := { np := 1, ns := 1, md := [false], body := b16 }
/-- atoms_in(thing, nested) thing:0 nested:1 one:2 other:3 item:4 -/
def b17 : List MS := [.ite (.call 19 [.v 0]) [.ret (.c (.int 1))] [],
    .ite (.or (.cmp .eq (.v 1) (.c (.int 0))) (.not (.call 20 [.v 0, .c (.int 2), .c (.int 2)]))) [.ret (.neg (.c (.int 1)))] [],
    .unpack [2, 3] (.lc [4] (.n 4) (.ex (.v 0)) [] (.call 17 [.v 4, .bin .sub (.v 1) (.c (.int 1))])),
    .ret (.ite (.or (.cmp .lt (.v 2) (.c (.int 0))) (.cmp .lt (.v 3) (.c (.int 0)))) (.neg (.c (.int 1))) (.bin .add (.v 2) (.v 3)))]
def fd17 : FD := { np := 2, ns := 5, md := [false, false], body := b17 }
/-- is_atom(kind) kind:0 -/
def b18 : List MS := [.ret (.isi (.v 0) [.str])]
def fd18 : FD := { np := 1, ns := 1, md := [false], body := b18 }
/-- is_name(thing) thing:0 sign:1 -/
def b19 : List MS := [.ret (.and (.isi (.v 0) [.str]) (.and (.chain .le .le (.c (.int 1)) (.blt .len [.v 0]) (.c (.int 8))) (.blt .all [.lc [1] (.n 1) (.ex (.v 0)) [] (.cmp .isin (.v 1) (.c (.str "abcdefghijklmnopqrstuvwxyz")))])))]
def fd19 : FD := { np := 1, ns := 2, md := [false], body := b19 }
/-- is_tuple(thing, least, most) thing:0 least:1 most:2 -/
def b20 : List MS := [.ret (.and (.isi (.v 0) [.tuple]) (.chain .le .le (.v 1) (.blt .len [.v 0]) (.v 2)))]
def fd20 : FD := { np := 3, ns := 3, md := [false, false, false], body := b20 }
def T : List FD := [fd0, fd1, fd2, fd3, fd4, fd5, fd6, fd7, fd8, fd9, fd10, fd11, fd12, fd13, fd14, fd15, fd16, fd17, fd18, fd19, fd20]
@[simp] theorem T_0 : T[0]? = some fd0 := rfl
@[simp] theorem T_1 : T[1]? = some fd1 := rfl
@[simp] theorem T_2 : T[2]? = some fd2 := rfl
@[simp] theorem T_3 : T[3]? = some fd3 := rfl
@[simp] theorem T_4 : T[4]? = some fd4 := rfl
@[simp] theorem T_5 : T[5]? = some fd5 := rfl
@[simp] theorem T_6 : T[6]? = some fd6 := rfl
@[simp] theorem T_7 : T[7]? = some fd7 := rfl
@[simp] theorem T_8 : T[8]? = some fd8 := rfl
@[simp] theorem T_9 : T[9]? = some fd9 := rfl
@[simp] theorem T_10 : T[10]? = some fd10 := rfl
@[simp] theorem T_11 : T[11]? = some fd11 := rfl
@[simp] theorem T_12 : T[12]? = some fd12 := rfl
@[simp] theorem T_13 : T[13]? = some fd13 := rfl
@[simp] theorem T_14 : T[14]? = some fd14 := rfl
@[simp] theorem T_15 : T[15]? = some fd15 := rfl
@[simp] theorem T_16 : T[16]? = some fd16 := rfl
@[simp] theorem T_17 : T[17]? = some fd17 := rfl
@[simp] theorem T_18 : T[18]? = some fd18 := rfl
@[simp] theorem T_19 : T[19]? = some fd19 := rfl
@[simp] theorem T_20 : T[20]? = some fd20 := rfl
abbrev s0 : Stmt := top 33
abbrev s1 : Stmt := top 20
abbrev s2 : Stmt := top 32
abbrev s3 : Stmt := top 25
abbrev s4 : Stmt := top 21
abbrev s5 : Stmt := top 22
abbrev s6 : Stmt := top 31
abbrev s7 : Stmt := top 24
abbrev s8 : Stmt := top 23
abbrev s9 : Stmt := top 17
abbrev s10 : Stmt := top 18
abbrev s11 : Stmt := top 26
abbrev s12 : Stmt := top 27
abbrev s13 : Stmt := top 12
abbrev s14 : Stmt := top 13
abbrev s15 : Stmt := top 15
abbrev s16 : Stmt := top 16
abbrev s17 : Stmt := top 11
abbrev s18 : Stmt := top 14
abbrev s19 : Stmt := top 3
abbrev s20 : Stmt := top 4
theorem sc0 : FnScope ["script", "hand", "spin", "kind", "row", "entire", "last", "one", "spot"] ["script"] (defScope s0) := ⟨rfl, rfl, rfl, by decide +kernel, rfl, by decide +kernel, by decide +kernel⟩
theorem sc1 : FnScope ["script", "cells", "cell"] ["script"] (defScope s1) := ⟨rfl, rfl, rfl, by decide +kernel, rfl, by decide +kernel, by decide +kernel⟩
theorem sc2 : FnScope ["known", "kind", "some", "last"] [] (defScope s2) := ⟨rfl, rfl, rfl, by decide +kernel, rfl, by decide +kernel, by decide +kernel⟩
theorem sc3 : FnScope ["hand", "limit", "front"] ["hand", "limit"] (defScope s3) := ⟨rfl, rfl, rfl, by decide +kernel, rfl, by decide +kernel, by decide +kernel⟩
theorem sc4 : FnScope ["hand", "limit", "cell", "digit", "number"] ["hand", "limit"] (defScope s4) := ⟨rfl, rfl, rfl, by decide +kernel, rfl, by decide +kernel, by decide +kernel⟩
theorem sc5 : FnScope ["hand", "things"] ["hand", "things"] (defScope s5) := ⟨rfl, rfl, rfl, by decide +kernel, rfl, by decide +kernel, by decide +kernel⟩
theorem sc6 : FnScope ["kind", "copy", "told", "built", "one"] ["kind"] (defScope s6) := ⟨rfl, rfl, rfl, by decide +kernel, rfl, by decide +kernel, by decide +kernel⟩
theorem sc7 : FnScope ["hand"] ["hand"] (defScope s7) := ⟨rfl, rfl, rfl, by decide +kernel, rfl, by decide +kernel, by decide +kernel⟩
theorem sc8 : FnScope ["told", "due", "k"] ["told", "due"] (defScope s8) := ⟨rfl, rfl, rfl, by decide +kernel, rfl, by decide +kernel, by decide +kernel⟩
theorem sc9 : FnScope ["kind"] ["kind"] (defScope s9) := ⟨rfl, rfl, rfl, by decide +kernel, rfl, by decide +kernel, by decide +kernel⟩
theorem sc10 : FnScope ["kind"] ["kind"] (defScope s10) := ⟨rfl, rfl, rfl, by decide +kernel, rfl, by decide +kernel, by decide +kernel⟩
theorem sc11 : FnScope ["kind", "found"] ["kind"] (defScope s11) := ⟨rfl, rfl, rfl, by decide +kernel, rfl, by decide +kernel, by decide +kernel⟩
theorem sc12 : FnScope ["kind"] ["kind"] (defScope s12) := ⟨rfl, rfl, rfl, by decide +kernel, rfl, by decide +kernel, by decide +kernel⟩
theorem sc13 : FnScope ["thing"] ["thing"] (defScope s13) := ⟨rfl, rfl, rfl, by decide +kernel, rfl, by decide +kernel, by decide +kernel⟩
theorem sc14 : FnScope ["thing"] ["thing"] (defScope s14) := ⟨rfl, rfl, rfl, by decide +kernel, rfl, by decide +kernel, by decide +kernel⟩
theorem sc15 : FnScope ["kind", "found"] ["kind"] (defScope s15) := ⟨rfl, rfl, rfl, by decide +kernel, rfl, by decide +kernel, by decide +kernel⟩
theorem sc16 : FnScope ["kind"] ["kind"] (defScope s16) := ⟨rfl, rfl, rfl, by decide +kernel, rfl, by decide +kernel, by decide +kernel⟩
theorem sc17 : FnScope ["thing", "nested", "one", "other", "item"] ["thing", "nested"] (defScope s17) := ⟨rfl, rfl, rfl, by decide +kernel, rfl, by decide +kernel, by decide +kernel⟩
theorem sc18 : FnScope ["kind"] ["kind"] (defScope s18) := ⟨rfl, rfl, rfl, by decide +kernel, rfl, by decide +kernel, by decide +kernel⟩
theorem sc19 : FnScope ["thing", "sign"] ["thing"] (defScope s19) := ⟨rfl, rfl, rfl, by decide +kernel, rfl, by decide +kernel, by decide +kernel⟩
theorem sc20 : FnScope ["thing", "least", "most"] ["thing", "least", "most"] (defScope s20) := ⟨rfl, rfl, rfl, by decide +kernel, rfl, by decide +kernel, by decide +kernel⟩
structure Top (K : PySem.W.Frag) (mg : Str → Option Value) (f0 f1 f2 f3 f4 f5 f6 f7 f8 f9 f10 f11 f12 f13 f14 f15 f16 f17 f18 f19 f20 : Addr) (g0 g1 g2 g3 g4 g5 g6 g7 g8 g9 g10 g11 g12 g13 g14 g15 g16 g17 g18 g19 g20 : FuncData) : Prop where
  F0 : Fun K "law" "law" s0 f0 g0
  b0 : Binds K g0 ["script"] []
  k0 : PySem.W.keepIn K (.ref f0) = true
  F1 : Fun K "_law_hand" "_law_hand" s1 f1 g1
  b1 : Binds K g1 ["script"] []
  k1 : PySem.W.keepIn K (.ref f1) = true
  F2 : Fun K "_law_is_known_right" "_law_is_known_right" s2 f2 g2
  b2 : Binds K g2 [] []
  k2 : PySem.W.keepIn K (.ref f2) = true
  F3 : Fun K "_law_kind" "_law_kind" s3 f3 g3
  b3 : Binds K g3 ["hand", "limit"] []
  k3 : PySem.W.keepIn K (.ref f3) = true
  F4 : Fun K "_law_draw" "_law_draw" s4 f4 g4
  b4 : Binds K g4 ["hand", "limit"] []
  k4 : PySem.W.keepIn K (.ref f4) = true
  F5 : Fun K "_law_some" "_law_some" s5 f5 g5
  b5 : Binds K g5 ["hand", "things"] []
  k5 : PySem.W.keepIn K (.ref f5) = true
  F6 : Fun K "_law_is_right" "_law_is_right" s6 f6 g6
  b6 : Binds K g6 ["kind"] []
  k6 : PySem.W.keepIn K (.ref f6) = true
  F7 : Fun K "_law_atom" "_law_atom" s7 f7 g7
  b7 : Binds K g7 ["hand"] []
  k7 : PySem.W.keepIn K (.ref f7) = true
  F8 : Fun K "_law_is" "_law_is" s8 f8 g8
  b8 : Binds K g8 ["told", "due"] []
  k8 : PySem.W.keepIn K (.ref f8) = true
  F9 : Fun K "parts" "parts" s9 f9 g9
  b9 : Binds K g9 ["kind"] []
  k9 : PySem.W.keepIn K (.ref f9) = true
  F10 : Fun K "end" "end" s10 f10 g10
  b10 : Binds K g10 ["kind"] []
  k10 : PySem.W.keepIn K (.ref f10) = true
  F11 : Fun K "_law_pieces" "_law_pieces" s11 f11 g11
  b11 : Binds K g11 ["kind"] []
  k11 : PySem.W.keepIn K (.ref f11) = true
  F12 : Fun K "_law_last" "_law_last" s12 f12 g12
  b12 : Binds K g12 ["kind"] []
  k12 : PySem.W.keepIn K (.ref f12) = true
  F13 : Fun K "is_kind" "is_kind" s13 f13 g13
  b13 : Binds K g13 ["thing"] []
  k13 : PySem.W.keepIn K (.ref f13) = true
  F14 : Fun K "check_kind" "check_kind" s14 f14 g14
  b14 : Binds K g14 ["thing"] []
  k14 : PySem.W.keepIn K (.ref f14) = true
  F15 : Fun K "parts_of" "parts_of" s15 f15 g15
  b15 : Binds K g15 ["kind"] []
  k15 : PySem.W.keepIn K (.ref f15) = true
  F16 : Fun K "end_of" "end_of" s16 f16 g16
  b16 : Binds K g16 ["kind"] []
  k16 : PySem.W.keepIn K (.ref f16) = true
  F17 : Fun K "atoms_in" "atoms_in" s17 f17 g17
  b17 : Binds K g17 ["thing", "nested"] []
  k17 : PySem.W.keepIn K (.ref f17) = true
  F18 : Fun K "is_atom" "is_atom" s18 f18 g18
  b18 : Binds K g18 ["kind"] []
  k18 : PySem.W.keepIn K (.ref f18) = true
  F19 : Fun K "is_name" "is_name" s19 f19 g19
  b19 : Binds K g19 ["thing"] []
  k19 : PySem.W.keepIn K (.ref f19) = true
  F20 : Fun K "is_tuple" "is_tuple" s20 f20 g20
  b20 : Binds K g20 ["thing", "least", "most"] []
  k20 : PySem.W.keepIn K (.ref f20) = true
  m__law_hand : mg "_law_hand" = some (.ref f1)
  m__law_is_known_right : mg "_law_is_known_right" = some (.ref f2)
  m__law_kind : mg "_law_kind" = some (.ref f3)
  m__law_draw : mg "_law_draw" = some (.ref f4)
  m__law_some : mg "_law_some" = some (.ref f5)
  m__law_is_right : mg "_law_is_right" = some (.ref f6)
  m__law_atom : mg "_law_atom" = some (.ref f7)
  m__law_is : mg "_law_is" = some (.ref f8)
  m_parts : mg "parts" = some (.ref f9)
  m_end : mg "end" = some (.ref f10)
  m__law_pieces : mg "_law_pieces" = some (.ref f11)
  m__law_last : mg "_law_last" = some (.ref f12)
  m_is_kind : mg "is_kind" = some (.ref f13)
  m_check_kind : mg "check_kind" = some (.ref f14)
  m_parts_of : mg "parts_of" = some (.ref f15)
  m_end_of : mg "end_of" = some (.ref f16)
  m_atoms_in : mg "atoms_in" = some (.ref f17)
  m_is_atom : mg "is_atom" = some (.ref f18)
  m_is_name : mg "is_name" = some (.ref f19)
  m_is_tuple : mg "is_tuple" = some (.ref f20)
  m_law : mg "law" = some (.ref f0)
  z_abs : mg "abs" = none
  z_all : mg "all" = none
  z_bool : mg "bool" = none
  z_int : mg "int" = none
  z_isinstance : mg "isinstance" = none
  z_len : mg "len" = none
  z_list : mg "list" = none
  z_range : mg "range" = none
  z_repr : mg "repr" = none
  z_str : mg "str" = none
  z_tuple : mg "tuple" = none
  c_MOST_NESTED : ∃ t, mg "MOST_NESTED" = some (.int 15 t)
  c_MOST_ATOMS : ∃ t, mg "MOST_ATOMS" = some (.int 30 t)
  c_MOST_LETTERS : ∃ t, mg "MOST_LETTERS" = some (.int 8 t)
  c_LETTERS : ∃ t, mg "LETTERS" = some (.str "abcdefghijklmnopqrstuvwxyz" t)
theorem bo_abs : bootBuiltins "abs" = some (.builtin "abs") := by decide +kernel
theorem bo_all : bootBuiltins "all" = some (.builtin "all") := by decide +kernel
theorem bo_bool : bootBuiltins "bool" = some (.type "bool") := by decide +kernel
theorem bo_int : bootBuiltins "int" = some (.type "int") := by decide +kernel
theorem bo_isinstance : bootBuiltins "isinstance" = some (.builtin "isinstance") := by decide +kernel
theorem bo_len : bootBuiltins "len" = some (.builtin "len") := by decide +kernel
theorem bo_list : bootBuiltins "list" = some (.type "list") := by decide +kernel
theorem bo_range : bootBuiltins "range" = some (.type "range") := by decide +kernel
theorem bo_repr : bootBuiltins "repr" = some (.builtin "repr") := by decide +kernel
theorem bo_str : bootBuiltins "str" = some (.type "str") := by decide +kernel
theorem bo_tuple : bootBuiltins "tuple" = some (.type "tuple") := by decide +kernel
section
variable {P : Program} {w : World} {K : PySem.W.Frag} {mg : Str → Option Value} {base : Heap} {f0 f1 f2 f3 f4 f5 f6 f7 f8 f9 f10 f11 f12 f13 f14 f15 f16 f17 f18 f19 f20 : Addr} {g0 g1 g2 g3 g4 g5 g6 g7 g8 g9 g10 g11 g12 g13 g14 g15 g16 g17 g18 g19 g20 : FuncData} {W k : Nat}
structure AllFn (P : Program) (w : World) (K : PySem.W.Frag) (mg : Str → Option Value) (base : Heap) (W k : Nat) (f0 f1 f2 f3 f4 f5 f6 f7 f8 f9 f10 f11 f12 f13 f14 f15 f16 f17 f18 f19 f20 : Addr) (g0 g1 g2 g3 g4 g5 g6 g7 g8 g9 g10 g11 g12 g13 g14 g15 g16 g17 g18 g19 g20 : FuncData) : Prop where
  c0 : FnG P w K mg base k f0 g0 ["script"] (spF K (modesOf T 0) (callF W T k 0))
  c1 : FnG P w K mg base k f1 g1 ["script"] (spF K (modesOf T 1) (callF W T k 1))
  c2 : FnG P w K mg base k f2 g2 [] (spF K (modesOf T 2) (callF W T k 2))
  c3 : FnG P w K mg base k f3 g3 ["hand", "limit"] (spF K (modesOf T 3) (callF W T k 3))
  c4 : FnG P w K mg base k f4 g4 ["hand", "limit"] (spF K (modesOf T 4) (callF W T k 4))
  c5 : FnG P w K mg base k f5 g5 ["hand", "things"] (spF K (modesOf T 5) (callF W T k 5))
  c6 : FnG P w K mg base k f6 g6 ["kind"] (spF K (modesOf T 6) (callF W T k 6))
  c7 : FnG P w K mg base k f7 g7 ["hand"] (spF K (modesOf T 7) (callF W T k 7))
  c8 : FnG P w K mg base k f8 g8 ["told", "due"] (spF K (modesOf T 8) (callF W T k 8))
  c9 : FnG P w K mg base k f9 g9 ["kind"] (spF K (modesOf T 9) (callF W T k 9))
  c10 : FnG P w K mg base k f10 g10 ["kind"] (spF K (modesOf T 10) (callF W T k 10))
  c11 : FnG P w K mg base k f11 g11 ["kind"] (spF K (modesOf T 11) (callF W T k 11))
  c12 : FnG P w K mg base k f12 g12 ["kind"] (spF K (modesOf T 12) (callF W T k 12))
  c13 : FnG P w K mg base k f13 g13 ["thing"] (spF K (modesOf T 13) (callF W T k 13))
  c14 : FnG P w K mg base k f14 g14 ["thing"] (spF K (modesOf T 14) (callF W T k 14))
  c15 : FnG P w K mg base k f15 g15 ["kind"] (spF K (modesOf T 15) (callF W T k 15))
  c16 : FnG P w K mg base k f16 g16 ["kind"] (spF K (modesOf T 16) (callF W T k 16))
  c17 : FnG P w K mg base k f17 g17 ["thing", "nested"] (spF K (modesOf T 17) (callF W T k 17))
  c18 : FnG P w K mg base k f18 g18 ["kind"] (spF K (modesOf T 18) (callF W T k 18))
  c19 : FnG P w K mg base k f19 g19 ["thing"] (spF K (modesOf T 19) (callF W T k 19))
  c20 : FnG P w K mg base k f20 g20 ["thing", "least", "most"] (spF K (modesOf T 20) (callF W T k 20))
theorem ok0 (M : Top K mg f0 f1 f2 f3 f4 f5 f6 f7 f8 f9 f10 f11 f12 f13 f14 f15 f16 f17 f18 f19 f20 g0 g1 g2 g3 g4 g5 g6 g7 g8 g9 g10 g11 g12 g13 g14 g15 g16 g17 g18 g19 g20) (C : AllFn P w K mg base W k f0 f1 f2 f3 f4 f5 f6 f7 f8 f9 f10 f11 f12 f13 f14 f15 f16 f17 f18 f19 f20 g0 g1 g2 g3 g4 g5 g6 g7 g8 g9 g10 g11 g12 g13 g14 g15 g16 g17 g18 g19 g20) : FnG P w K mg base (k + 1) f0 g0 ["script"] (spF K fd0.md (runF W (modesOf T) (callF W T k) fd0)) :=
  fn_den fd0 M.F0 sc0 rfl rfl rfl fun cdv A outer s H E hr hgd => by
    have hu : (A.deeper (envOfC "law" (defScope s0) s.heap.objs.size f0 cdv)).units + 100 < cLine := by have := hr.un; omega
    have hc : (A.deeper (envOfC "law" (defScope s0) s.heap.objs.size f0 cdv)).units + 65 < cLine := by omega
    exact (bd_cons (dset 1 sc0.nd (pd_call (f := 1) C.c1 hr hgd (by rfl) M.m__law_hand M.k1 M.b1 (ad_cons (dv 0) ad_nil))) (bd_cons (sd_ite (td_not (dtr (pd_call0 (f := 2) C.c2 hr hgd (by rfl) M.m__law_is_known_right M.k2 M.b2))) (bd_cons (sd_ret pd_bl) bd_nil) bd_nil) (bd_cons (sd_for PassesOwn.never rfl (id_range1 (by rfl) M.z_range pd_int) (dn 2 sc0.nd) (bd_cons (dset 3 sc0.nd (pd_call (f := 3) C.c3 hr hgd (by rfl) M.m__law_kind M.k3 M.b3 (ad_cons (dv 1) (ad_cons (pd_bin .add pd_int (pd_call (f := 4) C.c4 hr hgd (by rfl) M.m__law_draw M.k4 M.b4 (ad_cons (dv 1) (ad_cons (pd_call (f := 5) C.c5 hr hgd (by rfl) M.m__law_some M.k5 M.b5 (ad_cons (dv 1) (ad_cons (pd_lst (vd_cons pd_int (vd_cons pd_int (vd_cons pd_int vd_nil)))) ad_nil))) ad_nil)))) ad_nil)))) (bd_cons (sd_ite (td_not (dtr (pd_call (f := 6) C.c6 hr hgd (by rfl) M.m__law_is_right M.k6 M.b6 (ad_cons (dv 3) ad_nil)))) (bd_cons (sd_ret pd_bl) bd_nil) bd_nil) (bd_cons (sd_par 4 5 rfl sc0.nd (by rfl) (by rfl) (by decide) (by rfl) (by rfl) (pd_lc (own := [("spot", 8)]) (by decide) rfl sc0.nd (blkOk_by (by rfl)) (id_range1 (by rfl) M.z_range (pd_call (f := 4) C.c4 hr hgd (by rfl) M.m__law_draw M.k4 M.b4 (ad_cons (dv 1) (ad_cons pd_int ad_nil)))) (fun _ _ _ _ _ => (dn 8 sc0.nd)) (fun _ _ _ _ _ => cd_nil) (fun _ _ _ _ _ => (pd_call (f := 3) C.c3 hr hgd (by rfl) M.m__law_kind M.k3 M.b3 (ad_cons (dv 1) (ad_cons (pd_bin .add pd_int (pd_call (f := 4) C.c4 hr hgd (by rfl) M.m__law_draw M.k4 M.b4 (ad_cons (dv 1) (ad_cons pd_int ad_nil)))) ad_nil))))) (pd_call (f := 7) C.c7 hr hgd (by rfl) M.m__law_atom M.k7 M.b7 (ad_cons (dv 1) ad_nil)) (by rfl) (by rfl)) (bd_cons (dset 6 sc0.nd (dv 5)) (bd_cons (sd_for PassesOwn.never rfl (id_ex (pd_rev (dv 4))) (dn 7 sc0.nd) (bd_cons (dset 5 sc0.nd (pd_tup (vd_cons (dv 7) (vd_cons (dv 5) vd_nil)))) bd_nil)) (bd_cons (sd_ite (tdp (td_or (td_not (dtr (pd_call (f := 8) C.c8 hr hgd (by rfl) M.m__law_is M.k8 M.b8 (ad_cons (pd_lst (vd_cons (pd_call (f := 9) C.c9 hr hgd (by rfl) M.m_parts M.k9 M.b9 (ad_cons (dv 5) ad_nil)) (vd_cons (pd_call (f := 10) C.c10 hr hgd (by rfl) M.m_end M.k10 M.b10 (ad_cons (dv 5) ad_nil)) vd_nil))) (ad_cons (pd_lst (vd_cons (pd_bltT .tuple call_tupleD (by rfl) M.z_tuple bo_tuple (rd_cons (dv 4) rd_nil)) (vd_cons (dv 6) vd_nil))) ad_nil))))) (tor1 (td_not (dtr (pd_call (f := 6) C.c6 hr hgd (by rfl) M.m__law_is_right M.k6 M.b6 (ad_cons (dv 5) ad_nil))))))) (bd_cons (sd_ret pd_bl) bd_nil) bd_nil) bd_nil))))))) (bd_cons (sd_ret pd_bl) bd_nil))))
theorem ok1 (M : Top K mg f0 f1 f2 f3 f4 f5 f6 f7 f8 f9 f10 f11 f12 f13 f14 f15 f16 f17 f18 f19 f20 g0 g1 g2 g3 g4 g5 g6 g7 g8 g9 g10 g11 g12 g13 g14 g15 g16 g17 g18 g19 g20) (C : AllFn P w K mg base W k f0 f1 f2 f3 f4 f5 f6 f7 f8 f9 f10 f11 f12 f13 f14 f15 f16 f17 f18 f19 f20 g0 g1 g2 g3 g4 g5 g6 g7 g8 g9 g10 g11 g12 g13 g14 g15 g16 g17 g18 g19 g20) : FnG P w K mg base (k + 1) f1 g1 ["script"] (spF K fd1.md (runF W (modesOf T) (callF W T k) fd1)) :=
  fn_den fd1 M.F1 sc1 rfl rfl rfl fun cdv A outer s H E hr hgd => by
    have hu : (A.deeper (envOfC "_law_hand" (defScope s1) s.heap.objs.size f1 cdv)).units + 100 < cLine := by have := hr.un; omega
    have hc : (A.deeper (envOfC "_law_hand" (defScope s1) s.heap.objs.size f1 cdv)).units + 65 < cLine := by omega
    exact (bd_cons (sd_setLc (own := [("cell", 2)]) rfl (by decide) rfl sc1.nd (by rfl) (by rfl) (by rfl) (blkOk_by (by rfl)) (id_ex (pd_sl (dv 0) pp_none (pp_some pd_int))) (fun _ _ _ _ _ => (dn 2 sc1.nd)) (fun _ _ _ _ _ => cd_nil) (fun _ _ _ _ _ => (pd_bltB .abs call_absD (by rfl) M.z_abs bo_abs (rd_cons (pd_bltT .int call_intD (by rfl) M.z_int bo_int (rd_cons (dv 2) rd_nil)) rd_nil)))) (bd_cons (sd_ret (pd_lst (vd_cons (dv 1) (vd_cons pd_int (vd_cons pd_int (vd_cons (pd_bin .add pd_int (pd_bin .mul pd_int (pd_bltB .len call_lenD (by rfl) M.z_len bo_len (rd_cons (dv 1) rd_nil)))) (vd_cons pd_int vd_nil))))))) bd_nil))
theorem ok2 (M : Top K mg f0 f1 f2 f3 f4 f5 f6 f7 f8 f9 f10 f11 f12 f13 f14 f15 f16 f17 f18 f19 f20 g0 g1 g2 g3 g4 g5 g6 g7 g8 g9 g10 g11 g12 g13 g14 g15 g16 g17 g18 g19 g20) (C : AllFn P w K mg base W k f0 f1 f2 f3 f4 f5 f6 f7 f8 f9 f10 f11 f12 f13 f14 f15 f16 f17 f18 f19 f20 g0 g1 g2 g3 g4 g5 g6 g7 g8 g9 g10 g11 g12 g13 g14 g15 g16 g17 g18 g19 g20) : FnG P w K mg base (k + 1) f2 g2 [] (spF K fd2.md (runF W (modesOf T) (callF W T k) fd2)) :=
  fn_den fd2 M.F2 sc2 rfl rfl rfl fun cdv A outer s H E hr hgd => by
    have hu : (A.deeper (envOfC "_law_is_known_right" (defScope s2) s.heap.objs.size f2 cdv)).units + 100 < cLine := by have := hr.un; omega
    have hc : (A.deeper (envOfC "_law_is_known_right" (defScope s2) s.heap.objs.size f2 cdv)).units + 65 < cLine := by omega
    exact (bd_cons (dset 0 sc2.nd (pd_lst (vd_cons (pd_tup (vd_cons pd_str (vd_cons (pd_tup vd_nil) (vd_cons pd_str vd_nil)))) (vd_cons (pd_tup (vd_cons (pd_tup (vd_cons pd_str (vd_cons pd_str vd_nil))) (vd_cons (pd_tup (vd_cons pd_str vd_nil)) (vd_cons pd_str vd_nil)))) (vd_cons (pd_tup (vd_cons (pd_tup (vd_cons (pd_tup (vd_cons pd_str (vd_cons pd_str vd_nil))) (vd_cons pd_str vd_nil))) (vd_cons (pd_tup (vd_cons (pd_tup (vd_cons pd_str (vd_cons pd_str vd_nil))) vd_nil)) (vd_cons pd_str vd_nil)))) vd_nil))))) (bd_cons (dapp 0 (pd_tup (vd_cons (pd_tup (vd_cons pd_str (vd_cons (pd_tup (vd_cons (pd_tup (vd_cons pd_str (vd_cons pd_str vd_nil))) (vd_cons (pd_tup (vd_cons pd_str (vd_cons pd_str vd_nil))) vd_nil))) vd_nil))) (vd_cons (pd_tup (vd_cons pd_str (vd_cons (pd_tup (vd_cons pd_str (vd_cons pd_str vd_nil))) (vd_cons pd_str vd_nil)))) (vd_cons pd_str vd_nil))))) (bd_cons (sd_ret (pd_bltB .all (call_allD rfl) (by rfl) M.z_all bo_all (rd_cons (pd_lc (own := [("kind", 1), ("some", 2), ("last", 3)]) (by decide) rfl sc2.nd (blkOk_by (by rfl)) (id_ex (dv 0)) (fun _ _ _ _ _ => (gd_t rfl (dngs 1 sc2.nd (dngs 2 sc2.nd (dngs 3 sc2.nd ngs_nil))) rfl)) (fun _ _ _ _ _ => cd_nil) (fun _ _ _ _ _ => (pd_call (f := 8) C.c8 hr hgd (by rfl) M.m__law_is M.k8 M.b8 (ad_cons (pd_lst (vd_cons (pd_call (f := 9) C.c9 hr hgd (by rfl) M.m_parts M.k9 M.b9 (ad_cons (dv 1) ad_nil)) (vd_cons (pd_call (f := 10) C.c10 hr hgd (by rfl) M.m_end M.k10 M.b10 (ad_cons (dv 1) ad_nil)) vd_nil))) (ad_cons (pd_lst (vd_cons (dv 2) (vd_cons (dv 3) vd_nil))) ad_nil))))) rd_nil))) bd_nil)))
theorem ok3 (M : Top K mg f0 f1 f2 f3 f4 f5 f6 f7 f8 f9 f10 f11 f12 f13 f14 f15 f16 f17 f18 f19 f20 g0 g1 g2 g3 g4 g5 g6 g7 g8 g9 g10 g11 g12 g13 g14 g15 g16 g17 g18 g19 g20) (C : AllFn P w K mg base W k f0 f1 f2 f3 f4 f5 f6 f7 f8 f9 f10 f11 f12 f13 f14 f15 f16 f17 f18 f19 f20 g0 g1 g2 g3 g4 g5 g6 g7 g8 g9 g10 g11 g12 g13 g14 g15 g16 g17 g18 g19 g20) : FnG P w K mg base (k + 1) f3 g3 ["hand", "limit"] (spF K fd3.md (runF W (modesOf T) (callF W T k) fd3)) :=
  fn_den fd3 M.F3 sc3 rfl rfl rfl fun cdv A outer s H E hr hgd => by
    have hu : (A.deeper (envOfC "_law_kind" (defScope s3) s.heap.objs.size f3 cdv)).units + 100 < cLine := by have := hr.un; omega
    have hc : (A.deeper (envOfC "_law_kind" (defScope s3) s.heap.objs.size f3 cdv)).units + 65 < cLine := by omega
    exact (bd_cons (sd_ite (td_cmp .lt hc (dv 1) pd_int (nomark _)) (bd_cons (sd_ret (pd_call (f := 7) C.c7 hr hgd (by rfl) M.m__law_atom M.k7 M.b7 (ad_cons (dv 0) ad_nil))) bd_nil) bd_nil) (bd_cons (dset 2 sc3.nd (pd_bin .add pd_int (pd_call (f := 4) C.c4 hr hgd (by rfl) M.m__law_draw M.k4 M.b4 (ad_cons (dv 0) (ad_cons (pd_bin .sub (dv 1) pd_int) ad_nil))))) (bd_cons (dset 2 sc3.nd (pd_ite (td_cmp .eq hc (pd_call (f := 4) C.c4 hr hgd (by rfl) M.m__law_draw M.k4 M.b4 (ad_cons (dv 0) (ad_cons pd_int ad_nil))) pd_int (nomark _)) pd_int (dv 2))) (bd_cons (sd_ret (pd_tup (vd_cons (pd_call (f := 3) C.c3 hr hgd (by rfl) M.m__law_kind M.k3 M.b3 (ad_cons (dv 0) (ad_cons (dv 2) ad_nil))) (vd_cons (pd_call (f := 3) C.c3 hr hgd (by rfl) M.m__law_kind M.k3 M.b3 (ad_cons (dv 0) (ad_cons (pd_bin .sub (dv 1) (dv 2)) ad_nil))) vd_nil)))) bd_nil))))
theorem ok4 (M : Top K mg f0 f1 f2 f3 f4 f5 f6 f7 f8 f9 f10 f11 f12 f13 f14 f15 f16 f17 f18 f19 f20 g0 g1 g2 g3 g4 g5 g6 g7 g8 g9 g10 g11 g12 g13 g14 g15 g16 g17 g18 g19 g20) (C : AllFn P w K mg base W k f0 f1 f2 f3 f4 f5 f6 f7 f8 f9 f10 f11 f12 f13 f14 f15 f16 f17 f18 f19 f20 g0 g1 g2 g3 g4 g5 g6 g7 g8 g9 g10 g11 g12 g13 g14 g15 g16 g17 g18 g19 g20) : FnG P w K mg base (k + 1) f4 g4 ["hand", "limit"] (spF K fd4.md (runF W (modesOf T) (callF W T k) fd4)) :=
  fn_den fd4 M.F4 sc4 rfl rfl rfl fun cdv A outer s H E hr hgd => by
    have hu : (A.deeper (envOfC "_law_draw" (defScope s4) s.heap.objs.size f4 cdv)).units + 100 < cLine := by have := hr.un; omega
    have hc : (A.deeper (envOfC "_law_draw" (defScope s4) s.heap.objs.size f4 cdv)).units + 65 < cLine := by omega
    exact (bd_cons (sd_ite (tdp (td_and (td_cmp .eq hc (pd_idx (dv 0) pd_int (fun _ _ => rfl)) pd_int (nomark _)) (tand1 (td_cmp .lt hc (pd_idx (dv 0) pd_int (fun _ _ => rfl)) (pd_bltB .len call_lenD (by rfl) M.z_len bo_len (rd_cons (pd_idx (dv 0) pd_int (fun _ _ => rfl)) rd_nil)) (nomark _))))) (bd_cons (dset 2 sc4.nd (pd_idx (pd_idx (dv 0) pd_int (fun _ _ => rfl)) (pd_idx (dv 0) pd_int (fun _ _ => rfl)) (fun _ _ => rfl))) (bd_cons (sd_put 0 (by rfl) (by first | exact Or.inl rfl | exact Or.inr (Or.inl rfl) | exact Or.inr (Or.inr rfl)) (pd_bin .add (pd_idx (dv 0) pd_int (fun _ _ => rfl)) pd_int) pd_int (by rfl) (by rfl)) (bd_cons (sd_put 0 (by rfl) (by first | exact Or.inl rfl | exact Or.inr (Or.inl rfl) | exact Or.inr (Or.inr rfl)) (pd_bin .mod (pd_bltT .int call_intD (by rfl) M.z_int bo_int (rd_cons (pd_bin .add (pd_bin .add (pd_bin .mul (pd_idx (dv 0) pd_int (fun _ _ => rfl)) pd_int) (dv 2)) pd_int) rd_nil)) pd_int) pd_int (by rfl) (by rfl)) (bd_cons (sd_ite (td_cmp .ge hc (dv 2) (pd_bin .pow pd_int pd_int) (nomark _)) (bd_cons (sd_put 0 (by rfl) (by first | exact Or.inl rfl | exact Or.inr (Or.inl rfl) | exact Or.inr (Or.inr rfl)) (dv 2) pd_int (by rfl) (by rfl)) bd_nil) bd_nil) bd_nil)))) bd_nil) (bd_cons (sd_ite (td_cmp .gt hc (pd_idx (dv 0) pd_int (fun _ _ => rfl)) pd_int (nomark _)) (bd_cons (dset 3 sc4.nd (pd_bin .mod (pd_bltT .int call_intD (by rfl) M.z_int bo_int (rd_cons (pd_idx (dv 0) pd_int (fun _ _ => rfl)) rd_nil)) (dv 1))) (bd_cons (sd_put 0 (by rfl) (by first | exact Or.inl rfl | exact Or.inr (Or.inl rfl) | exact Or.inr (Or.inr rfl)) (pd_bin .fdiv (pd_idx (dv 0) pd_int (fun _ _ => rfl)) (dv 1)) pd_int (by rfl) (by rfl)) (bd_cons (sd_ret (dv 3)) bd_nil))) bd_nil) (bd_cons (sd_put 0 (by rfl) (by first | exact Or.inl rfl | exact Or.inr (Or.inl rfl) | exact Or.inr (Or.inr rfl)) (pd_bin .add (pd_idx (dv 0) pd_int (fun _ _ => rfl)) pd_int) pd_int (by rfl) (by rfl)) (bd_cons (dset 4 sc4.nd (pd_bin .mod (pd_bltT .int call_intD (by rfl) M.z_int bo_int (rd_cons (pd_bin .mul (pd_bltT .int call_intD (by rfl) M.z_int bo_int (rd_cons (pd_bin .add (pd_idx (dv 0) pd_int (fun _ _ => rfl)) (pd_bin .mul pd_int (pd_idx (dv 0) pd_int (fun _ _ => rfl)))) rd_nil)) pd_int) rd_nil)) pd_int)) (bd_cons (dset 4 sc4.nd (pd_bin .mod (pd_bltT .int call_intD (by rfl) M.z_int bo_int (rd_cons (pd_bin .mul (dv 4) (pd_bin .add (pd_bin .fdiv (dv 4) pd_int) pd_int)) rd_nil)) pd_int)) (bd_cons (dset 4 sc4.nd (pd_bin .mod (pd_bltT .int call_intD (by rfl) M.z_int bo_int (rd_cons (pd_bin .mul (dv 4) (pd_bin .add (pd_bin .fdiv (dv 4) pd_int) pd_int)) rd_nil)) pd_int)) (bd_cons (sd_ret (pd_bin .mod (pd_bltT .int call_intD (by rfl) M.z_int bo_int (rd_cons (pd_bin .fdiv (dv 4) pd_int) rd_nil)) (dv 1))) bd_nil)))))))
theorem ok5 (M : Top K mg f0 f1 f2 f3 f4 f5 f6 f7 f8 f9 f10 f11 f12 f13 f14 f15 f16 f17 f18 f19 f20 g0 g1 g2 g3 g4 g5 g6 g7 g8 g9 g10 g11 g12 g13 g14 g15 g16 g17 g18 g19 g20) (C : AllFn P w K mg base W k f0 f1 f2 f3 f4 f5 f6 f7 f8 f9 f10 f11 f12 f13 f14 f15 f16 f17 f18 f19 f20 g0 g1 g2 g3 g4 g5 g6 g7 g8 g9 g10 g11 g12 g13 g14 g15 g16 g17 g18 g19 g20) : FnG P w K mg base (k + 1) f5 g5 ["hand", "things"] (spF K fd5.md (runF W (modesOf T) (callF W T k) fd5)) :=
  fn_den fd5 M.F5 sc5 rfl rfl rfl fun cdv A outer s H E hr hgd => by
    have hu : (A.deeper (envOfC "_law_some" (defScope s5) s.heap.objs.size f5 cdv)).units + 100 < cLine := by have := hr.un; omega
    have hc : (A.deeper (envOfC "_law_some" (defScope s5) s.heap.objs.size f5 cdv)).units + 65 < cLine := by omega
    exact (bd_cons (sd_ret (pd_idx (dv 1) (pd_call (f := 4) C.c4 hr hgd (by rfl) M.m__law_draw M.k4 M.b4 (ad_cons (dv 0) (ad_cons (pd_bltB .len call_lenD (by rfl) M.z_len bo_len (rd_cons (dv 1) rd_nil)) ad_nil))) (fun _ _ => rfl))) bd_nil)
theorem ok6 (M : Top K mg f0 f1 f2 f3 f4 f5 f6 f7 f8 f9 f10 f11 f12 f13 f14 f15 f16 f17 f18 f19 f20 g0 g1 g2 g3 g4 g5 g6 g7 g8 g9 g10 g11 g12 g13 g14 g15 g16 g17 g18 g19 g20) (C : AllFn P w K mg base W k f0 f1 f2 f3 f4 f5 f6 f7 f8 f9 f10 f11 f12 f13 f14 f15 f16 f17 f18 f19 f20 g0 g1 g2 g3 g4 g5 g6 g7 g8 g9 g10 g11 g12 g13 g14 g15 g16 g17 g18 g19 g20) : FnG P w K mg base (k + 1) f6 g6 ["kind"] (spF K fd6.md (runF W (modesOf T) (callF W T k) fd6)) :=
  fn_den fd6 M.F6 sc6 rfl rfl rfl fun cdv A outer s H E hr hgd => by
    have hu : (A.deeper (envOfC "_law_is_right" (defScope s6) s.heap.objs.size f6 cdv)).units + 100 < cLine := by have := hr.un; omega
    have hc : (A.deeper (envOfC "_law_is_right" (defScope s6) s.heap.objs.size f6 cdv)).units + 65 < cLine := by omega
    exact (bd_cons (dset 1 sc6.nd (pd_bltB .repr (call_reprD hgd hu) (by rfl) M.z_repr bo_repr (rd_cons (dv 0) rd_nil))) (bd_cons (dset 2 sc6.nd (pd_lst (vd_cons (pd_call (f := 9) C.c9 hr hgd (by rfl) M.m_parts M.k9 M.b9 (ad_cons (dv 0) ad_nil)) (vd_cons (pd_call (f := 10) C.c10 hr hgd (by rfl) M.m_end M.k10 M.b10 (ad_cons (dv 0) ad_nil)) vd_nil)))) (bd_cons (sd_ite (tdp (td_or (td_not (dtr (pd_call (f := 8) C.c8 hr hgd (by rfl) M.m__law_is M.k8 M.b8 (ad_cons (dv 2) (ad_cons (pd_lst (vd_cons (pd_bltT .tuple call_tupleD (by rfl) M.z_tuple bo_tuple (rd_cons (pd_call (f := 11) C.c11 hr hgd (by rfl) M.m__law_pieces M.k11 M.b11 (ad_cons (dv 0) ad_nil)) rd_nil)) (vd_cons (pd_call (f := 12) C.c12 hr hgd (by rfl) M.m__law_last M.k12 M.b12 (ad_cons (dv 0) ad_nil)) vd_nil))) ad_nil))))) (tor1 (td_cmp .ne hc (pd_bltB .repr (call_reprD hgd hu) (by rfl) M.z_repr bo_repr (rd_cons (dv 0) rd_nil)) (dv 1) (nomark _))))) (bd_cons (sd_ret pd_bl) bd_nil) bd_nil) (bd_cons (sd_ite (tdp (td_or (td_not (dtr (pd_bltB .all (call_allD rfl) (by rfl) M.z_all bo_all (rd_cons (pd_lc (own := [("one", 4)]) (by decide) rfl sc6.nd (blkOk_by (by rfl)) (id_ex (pd_idx (dv 2) pd_int (fun _ _ => rfl))) (fun _ _ _ _ _ => (dn 4 sc6.nd)) (fun _ _ _ _ _ => cd_nil) (fun _ _ _ _ _ => (pd_cmp .is hc (pd_call (f := 13) C.c13 hr hgd (by rfl) M.m_is_kind M.k13 M.b13 (ad_cons (dv 4) ad_nil)) pd_bl (nomark _)))) rd_nil)))) (tor1 (td_cmp .isnot hc (pd_call (f := 13) C.c13 hr hgd (by rfl) M.m_is_kind M.k13 M.b13 (ad_cons (pd_idx (dv 2) pd_int (fun _ _ => rfl)) ad_nil)) pd_bl (nomark _))))) (bd_cons (sd_ret pd_bl) bd_nil) bd_nil) (bd_cons (dset 3 sc6.nd (pd_idx (dv 2) pd_int (fun _ _ => rfl))) (bd_cons (sd_for PassesOwn.never rfl (id_ex (pd_rev (pd_idx (dv 2) pd_int (fun _ _ => rfl)))) (dn 4 sc6.nd) (bd_cons (dset 3 sc6.nd (pd_tup (vd_cons (dv 4) (vd_cons (dv 3) vd_nil)))) bd_nil)) (bd_cons (sd_ite (tdp (td_or (td_not (dtr (pd_call (f := 8) C.c8 hr hgd (by rfl) M.m__law_is M.k8 M.b8 (ad_cons (dv 3) (ad_cons (dv 0) ad_nil))))) (tor1 (td_not (dtr (pd_call (f := 8) C.c8 hr hgd (by rfl) M.m__law_is M.k8 M.b8 (ad_cons (pd_lst (vd_cons (pd_call (f := 9) C.c9 hr hgd (by rfl) M.m_parts M.k9 M.b9 (ad_cons (dv 0) ad_nil)) (vd_cons (pd_call (f := 10) C.c10 hr hgd (by rfl) M.m_end M.k10 M.b10 (ad_cons (dv 0) ad_nil)) vd_nil))) (ad_cons (dv 2) ad_nil)))))))) (bd_cons (sd_ret pd_bl) bd_nil) bd_nil) (bd_cons (sd_ite (dtr (pd_isi .str (by rfl) M.z_isinstance (dv 0) (by rfl) M.z_str bo_str)) (bd_cons (sd_ret (pd_cmp .eq hc (dv 2) (pd_lst (vd_cons (pd_tup vd_nil) (vd_cons (dv 0) vd_nil))) (nomark _))) bd_nil) bd_nil) (bd_cons (sd_ret (pd_call (f := 8) C.c8 hr hgd (by rfl) M.m__law_is M.k8 M.b8 (ad_cons (pd_lst (vd_cons (pd_bin .add (pd_tup (vd_cons (pd_idx (dv 0) pd_int (fun _ _ => rfl)) vd_nil)) (pd_call (f := 9) C.c9 hr hgd (by rfl) M.m_parts M.k9 M.b9 (ad_cons (pd_idx (dv 0) pd_int (fun _ _ => rfl)) ad_nil))) (vd_cons (pd_call (f := 10) C.c10 hr hgd (by rfl) M.m_end M.k10 M.b10 (ad_cons (pd_idx (dv 0) pd_int (fun _ _ => rfl)) ad_nil)) vd_nil))) (ad_cons (dv 2) ad_nil)))) bd_nil)))))))))
theorem ok7 (M : Top K mg f0 f1 f2 f3 f4 f5 f6 f7 f8 f9 f10 f11 f12 f13 f14 f15 f16 f17 f18 f19 f20 g0 g1 g2 g3 g4 g5 g6 g7 g8 g9 g10 g11 g12 g13 g14 g15 g16 g17 g18 g19 g20) (C : AllFn P w K mg base W k f0 f1 f2 f3 f4 f5 f6 f7 f8 f9 f10 f11 f12 f13 f14 f15 f16 f17 f18 f19 f20 g0 g1 g2 g3 g4 g5 g6 g7 g8 g9 g10 g11 g12 g13 g14 g15 g16 g17 g18 g19 g20) : FnG P w K mg base (k + 1) f7 g7 ["hand"] (spF K fd7.md (runF W (modesOf T) (callF W T k) fd7)) :=
  fn_den fd7 M.F7 sc7 rfl rfl rfl fun cdv A outer s H E hr hgd => by
    have hu : (A.deeper (envOfC "_law_atom" (defScope s7) s.heap.objs.size f7 cdv)).units + 100 < cLine := by have := hr.un; omega
    have hc : (A.deeper (envOfC "_law_atom" (defScope s7) s.heap.objs.size f7 cdv)).units + 65 < cLine := by omega
    exact (bd_cons (sd_ret (pd_call (f := 5) C.c5 hr hgd (by rfl) M.m__law_some M.k5 M.b5 (ad_cons (dv 0) (ad_cons (pd_lst (vd_cons pd_str (vd_cons pd_str (vd_cons pd_str (vd_cons pd_str (vd_cons pd_str (vd_cons pd_str (vd_cons pd_str vd_nil)))))))) ad_nil)))) bd_nil)
theorem ok8 (M : Top K mg f0 f1 f2 f3 f4 f5 f6 f7 f8 f9 f10 f11 f12 f13 f14 f15 f16 f17 f18 f19 f20 g0 g1 g2 g3 g4 g5 g6 g7 g8 g9 g10 g11 g12 g13 g14 g15 g16 g17 g18 g19 g20) (C : AllFn P w K mg base W k f0 f1 f2 f3 f4 f5 f6 f7 f8 f9 f10 f11 f12 f13 f14 f15 f16 f17 f18 f19 f20 g0 g1 g2 g3 g4 g5 g6 g7 g8 g9 g10 g11 g12 g13 g14 g15 g16 g17 g18 g19 g20) : FnG P w K mg base (k + 1) f8 g8 ["told", "due"] (spF K fd8.md (runF W (modesOf T) (callF W T k) fd8)) :=
  fn_den fd8 M.F8 sc8 rfl rfl rfl fun cdv A outer s H E hr hgd => by
    have hu : (A.deeper (envOfC "_law_is" (defScope s8) s.heap.objs.size f8 cdv)).units + 100 < cLine := by have := hr.un; omega
    have hc : (A.deeper (envOfC "_law_is" (defScope s8) s.heap.objs.size f8 cdv)).units + 65 < cLine := by omega
    exact (bd_cons (sd_ite (dtr (pd_isiT [.tuple, .list] (by rfl) M.z_isinstance (dv 1) (tys_cons .tuple (by rfl) M.z_tuple bo_tuple (tys_cons .list (by rfl) M.z_list bo_list tys_nil)))) (bd_cons (sd_ite (tdp (td_or (td_cmp .ne hc (pd_isi .tuple (by rfl) M.z_isinstance (dv 0) (by rfl) M.z_tuple bo_tuple) (pd_isi .tuple (by rfl) M.z_isinstance (dv 1) (by rfl) M.z_tuple bo_tuple) (nomark _)) (tor1 (td_cmp .ne hc (pd_isi .list (by rfl) M.z_isinstance (dv 0) (by rfl) M.z_list bo_list) (pd_isi .list (by rfl) M.z_isinstance (dv 1) (by rfl) M.z_list bo_list) (nomark _))))) (bd_cons (sd_ret pd_bl) bd_nil) bd_nil) (bd_cons (sd_ite (td_cmp .ne hc (pd_bltB .len call_lenD (by rfl) M.z_len bo_len (rd_cons (dv 0) rd_nil)) (pd_bltB .len call_lenD (by rfl) M.z_len bo_len (rd_cons (dv 1) rd_nil)) (nomark _)) (bd_cons (sd_ret pd_bl) bd_nil) bd_nil) (bd_cons (sd_ret (pd_bltB .all (call_allD rfl) (by rfl) M.z_all bo_all (rd_cons (pd_lc (own := [("k", 2)]) (by decide) rfl sc8.nd (blkOk_by (by rfl)) (id_range1 (by rfl) M.z_range (pd_bltB .len call_lenD (by rfl) M.z_len bo_len (rd_cons (dv 1) rd_nil))) (fun _ _ _ _ _ => (dn 2 sc8.nd)) (fun _ _ _ _ _ => cd_nil) (fun _ _ _ _ _ => (pd_call (f := 8) C.c8 hr hgd (by rfl) M.m__law_is M.k8 M.b8 (ad_cons (pd_idx (dv 0) (dv 2) (fun _ _ => rfl)) (ad_cons (pd_idx (dv 1) (dv 2) (fun _ _ => rfl)) ad_nil))))) rd_nil))) bd_nil))) bd_nil) (bd_cons (sd_ite (td_cmp .is hc (dv 1) pd_non (nomark _)) (bd_cons (sd_ret (pd_cmp .is hc (dv 0) pd_non (nomark _))) bd_nil) bd_nil) (bd_cons (sd_ite (tdp (td_or (td_cmp .ne hc (pd_isi .bool (by rfl) M.z_isinstance (dv 0) (by rfl) M.z_bool bo_bool) (pd_isi .bool (by rfl) M.z_isinstance (dv 1) (by rfl) M.z_bool bo_bool) (nomark _)) (tor1 (td_cmp .ne hc (pd_isi .int (by rfl) M.z_isinstance (dv 0) (by rfl) M.z_int bo_int) (pd_isi .int (by rfl) M.z_isinstance (dv 1) (by rfl) M.z_int bo_int) (nomark _))))) (bd_cons (sd_ret pd_bl) bd_nil) bd_nil) (bd_cons (sd_ret (pd_and (pd_cmp .eq hc (pd_isi .str (by rfl) M.z_isinstance (dv 0) (by rfl) M.z_str bo_str) (pd_isi .str (by rfl) M.z_isinstance (dv 1) (by rfl) M.z_str bo_str) (nomark _)) (pd_one (pd_cmp .eq hc (dv 0) (dv 1) (nomark _))))) bd_nil))))
theorem ok9 (M : Top K mg f0 f1 f2 f3 f4 f5 f6 f7 f8 f9 f10 f11 f12 f13 f14 f15 f16 f17 f18 f19 f20 g0 g1 g2 g3 g4 g5 g6 g7 g8 g9 g10 g11 g12 g13 g14 g15 g16 g17 g18 g19 g20) (C : AllFn P w K mg base W k f0 f1 f2 f3 f4 f5 f6 f7 f8 f9 f10 f11 f12 f13 f14 f15 f16 f17 f18 f19 f20 g0 g1 g2 g3 g4 g5 g6 g7 g8 g9 g10 g11 g12 g13 g14 g15 g16 g17 g18 g19 g20) : FnG P w K mg base (k + 1) f9 g9 ["kind"] (spF K fd9.md (runF W (modesOf T) (callF W T k) fd9)) :=
  fn_den fd9 M.F9 sc9 rfl rfl rfl fun cdv A outer s H E hr hgd => by
    have hu : (A.deeper (envOfC "parts" (defScope s9) s.heap.objs.size f9 cdv)).units + 100 < cLine := by have := hr.un; omega
    have hc : (A.deeper (envOfC "parts" (defScope s9) s.heap.objs.size f9 cdv)).units + 65 < cLine := by omega
    exact (bd_cons (sd_expr (pd_call (f := 14) C.c14 hr hgd (by rfl) M.m_check_kind M.k14 M.b14 (ad_cons (dv 0) ad_nil)) (by rfl)) (bd_cons (sd_ret (pd_call (f := 15) C.c15 hr hgd (by rfl) M.m_parts_of M.k15 M.b15 (ad_cons (dv 0) ad_nil))) bd_nil))
theorem ok10 (M : Top K mg f0 f1 f2 f3 f4 f5 f6 f7 f8 f9 f10 f11 f12 f13 f14 f15 f16 f17 f18 f19 f20 g0 g1 g2 g3 g4 g5 g6 g7 g8 g9 g10 g11 g12 g13 g14 g15 g16 g17 g18 g19 g20) (C : AllFn P w K mg base W k f0 f1 f2 f3 f4 f5 f6 f7 f8 f9 f10 f11 f12 f13 f14 f15 f16 f17 f18 f19 f20 g0 g1 g2 g3 g4 g5 g6 g7 g8 g9 g10 g11 g12 g13 g14 g15 g16 g17 g18 g19 g20) : FnG P w K mg base (k + 1) f10 g10 ["kind"] (spF K fd10.md (runF W (modesOf T) (callF W T k) fd10)) :=
  fn_den fd10 M.F10 sc10 rfl rfl rfl fun cdv A outer s H E hr hgd => by
    have hu : (A.deeper (envOfC "end" (defScope s10) s.heap.objs.size f10 cdv)).units + 100 < cLine := by have := hr.un; omega
    have hc : (A.deeper (envOfC "end" (defScope s10) s.heap.objs.size f10 cdv)).units + 65 < cLine := by omega
    exact (bd_cons (sd_expr (pd_call (f := 14) C.c14 hr hgd (by rfl) M.m_check_kind M.k14 M.b14 (ad_cons (dv 0) ad_nil)) (by rfl)) (bd_cons (sd_ret (pd_call (f := 16) C.c16 hr hgd (by rfl) M.m_end_of M.k16 M.b16 (ad_cons (dv 0) ad_nil))) bd_nil))
theorem ok11 (M : Top K mg f0 f1 f2 f3 f4 f5 f6 f7 f8 f9 f10 f11 f12 f13 f14 f15 f16 f17 f18 f19 f20 g0 g1 g2 g3 g4 g5 g6 g7 g8 g9 g10 g11 g12 g13 g14 g15 g16 g17 g18 g19 g20) (C : AllFn P w K mg base W k f0 f1 f2 f3 f4 f5 f6 f7 f8 f9 f10 f11 f12 f13 f14 f15 f16 f17 f18 f19 f20 g0 g1 g2 g3 g4 g5 g6 g7 g8 g9 g10 g11 g12 g13 g14 g15 g16 g17 g18 g19 g20) : FnG P w K mg base (k + 1) f11 g11 ["kind"] (spF K fd11.md (runF W (modesOf T) (callF W T k) fd11)) :=
  fn_den fd11 M.F11 sc11 rfl rfl rfl fun cdv A outer s H E hr hgd => by
    have hu : (A.deeper (envOfC "_law_pieces" (defScope s11) s.heap.objs.size f11 cdv)).units + 100 < cLine := by have := hr.un; omega
    have hc : (A.deeper (envOfC "_law_pieces" (defScope s11) s.heap.objs.size f11 cdv)).units + 65 < cLine := by omega
    exact (bd_cons (dset 1 sc11.nd (pd_lst vd_nil)) (bd_cons (sd_while PassesOwn.never (td_not (dtr (pd_isi .str (by rfl) M.z_isinstance (dv 0) (by rfl) M.z_str bo_str))) (bd_cons (dapp 1 (pd_idx (dv 0) pd_int (fun _ _ => rfl))) (bd_cons (dset 0 sc11.nd (pd_idx (dv 0) pd_int (fun _ _ => rfl))) bd_nil))) (bd_cons (sd_ret (dv 1)) bd_nil)))
theorem ok12 (M : Top K mg f0 f1 f2 f3 f4 f5 f6 f7 f8 f9 f10 f11 f12 f13 f14 f15 f16 f17 f18 f19 f20 g0 g1 g2 g3 g4 g5 g6 g7 g8 g9 g10 g11 g12 g13 g14 g15 g16 g17 g18 g19 g20) (C : AllFn P w K mg base W k f0 f1 f2 f3 f4 f5 f6 f7 f8 f9 f10 f11 f12 f13 f14 f15 f16 f17 f18 f19 f20 g0 g1 g2 g3 g4 g5 g6 g7 g8 g9 g10 g11 g12 g13 g14 g15 g16 g17 g18 g19 g20) : FnG P w K mg base (k + 1) f12 g12 ["kind"] (spF K fd12.md (runF W (modesOf T) (callF W T k) fd12)) :=
  fn_den fd12 M.F12 sc12 rfl rfl rfl fun cdv A outer s H E hr hgd => by
    have hu : (A.deeper (envOfC "_law_last" (defScope s12) s.heap.objs.size f12 cdv)).units + 100 < cLine := by have := hr.un; omega
    have hc : (A.deeper (envOfC "_law_last" (defScope s12) s.heap.objs.size f12 cdv)).units + 65 < cLine := by omega
    exact (bd_cons (sd_while PassesOwn.never (td_not (dtr (pd_isi .str (by rfl) M.z_isinstance (dv 0) (by rfl) M.z_str bo_str))) (bd_cons (dset 0 sc12.nd (pd_idx (dv 0) pd_int (fun _ _ => rfl))) bd_nil)) (bd_cons (sd_ret (dv 0)) bd_nil))
theorem ok13 (M : Top K mg f0 f1 f2 f3 f4 f5 f6 f7 f8 f9 f10 f11 f12 f13 f14 f15 f16 f17 f18 f19 f20 g0 g1 g2 g3 g4 g5 g6 g7 g8 g9 g10 g11 g12 g13 g14 g15 g16 g17 g18 g19 g20) (C : AllFn P w K mg base W k f0 f1 f2 f3 f4 f5 f6 f7 f8 f9 f10 f11 f12 f13 f14 f15 f16 f17 f18 f19 f20 g0 g1 g2 g3 g4 g5 g6 g7 g8 g9 g10 g11 g12 g13 g14 g15 g16 g17 g18 g19 g20) : FnG P w K mg base (k + 1) f13 g13 ["thing"] (spF K fd13.md (runF W (modesOf T) (callF W T k) fd13)) :=
  fn_den fd13 M.F13 sc13 rfl rfl rfl fun cdv A outer s H E hr hgd => by
    have hu : (A.deeper (envOfC "is_kind" (defScope s13) s.heap.objs.size f13 cdv)).units + 100 < cLine := by have := hr.un; omega
    have hc : (A.deeper (envOfC "is_kind" (defScope s13) s.heap.objs.size f13 cdv)).units + 65 < cLine := by omega
    exact (bd_cons (sd_ret (pd_chain .le .le hc pd_int (pd_call (f := 17) C.c17 hr hgd (by rfl) M.m_atoms_in M.k17 M.b17 (ad_cons (dv 0) (ad_cons (dgi M.c_MOST_NESTED) ad_nil))) (dgi M.c_MOST_ATOMS) (by rfl))) bd_nil)
theorem ok14 (M : Top K mg f0 f1 f2 f3 f4 f5 f6 f7 f8 f9 f10 f11 f12 f13 f14 f15 f16 f17 f18 f19 f20 g0 g1 g2 g3 g4 g5 g6 g7 g8 g9 g10 g11 g12 g13 g14 g15 g16 g17 g18 g19 g20) (C : AllFn P w K mg base W k f0 f1 f2 f3 f4 f5 f6 f7 f8 f9 f10 f11 f12 f13 f14 f15 f16 f17 f18 f19 f20 g0 g1 g2 g3 g4 g5 g6 g7 g8 g9 g10 g11 g12 g13 g14 g15 g16 g17 g18 g19 g20) : FnG P w K mg base (k + 1) f14 g14 ["thing"] (spF K fd14.md (runF W (modesOf T) (callF W T k) fd14)) :=
  fn_den fd14 M.F14 sc14 rfl rfl rfl fun cdv A outer s H E hr hgd => by
    have hu : (A.deeper (envOfC "check_kind" (defScope s14) s.heap.objs.size f14 cdv)).units + 100 < cLine := by have := hr.un; omega
    have hc : (A.deeper (envOfC "check_kind" (defScope s14) s.heap.objs.size f14 cdv)).units + 65 < cLine := by omega
    exact (bd_cons (sd_ite (td_not (dtr (pd_call (f := 13) C.c13 hr hgd (by rfl) M.m_is_kind M.k13 M.b13 (ad_cons (dv 0) ad_nil)))) (bd_cons sd_never bd_nil) bd_nil) bd_nil)
theorem ok15 (M : Top K mg f0 f1 f2 f3 f4 f5 f6 f7 f8 f9 f10 f11 f12 f13 f14 f15 f16 f17 f18 f19 f20 g0 g1 g2 g3 g4 g5 g6 g7 g8 g9 g10 g11 g12 g13 g14 g15 g16 g17 g18 g19 g20) (C : AllFn P w K mg base W k f0 f1 f2 f3 f4 f5 f6 f7 f8 f9 f10 f11 f12 f13 f14 f15 f16 f17 f18 f19 f20 g0 g1 g2 g3 g4 g5 g6 g7 g8 g9 g10 g11 g12 g13 g14 g15 g16 g17 g18 g19 g20) : FnG P w K mg base (k + 1) f15 g15 ["kind"] (spF K fd15.md (runF W (modesOf T) (callF W T k) fd15)) :=
  fn_den fd15 M.F15 sc15 rfl rfl rfl fun cdv A outer s H E hr hgd => by
    have hu : (A.deeper (envOfC "parts_of" (defScope s15) s.heap.objs.size f15 cdv)).units + 100 < cLine := by have := hr.un; omega
    have hc : (A.deeper (envOfC "parts_of" (defScope s15) s.heap.objs.size f15 cdv)).units + 65 < cLine := by omega
    exact (bd_cons (dset 1 sc15.nd (pd_lst vd_nil)) (bd_cons (sd_while PassesOwn.never (td_not (dtr (pd_call (f := 18) C.c18 hr hgd (by rfl) M.m_is_atom M.k18 M.b18 (ad_cons (dv 0) ad_nil)))) (bd_cons (dapp 1 (pd_idx (dv 0) pd_int (fun _ _ => rfl))) (bd_cons (dset 0 sc15.nd (pd_idx (dv 0) pd_int (fun _ _ => rfl))) bd_nil))) (bd_cons (sd_ret (pd_bltT .tuple call_tupleD (by rfl) M.z_tuple bo_tuple (rd_cons (dv 1) rd_nil))) bd_nil)))
theorem ok16 (M : Top K mg f0 f1 f2 f3 f4 f5 f6 f7 f8 f9 f10 f11 f12 f13 f14 f15 f16 f17 f18 f19 f20 g0 g1 g2 g3 g4 g5 g6 g7 g8 g9 g10 g11 g12 g13 g14 g15 g16 g17 g18 g19 g20) (C : AllFn P w K mg base W k f0 f1 f2 f3 f4 f5 f6 f7 f8 f9 f10 f11 f12 f13 f14 f15 f16 f17 f18 f19 f20 g0 g1 g2 g3 g4 g5 g6 g7 g8 g9 g10 g11 g12 g13 g14 g15 g16 g17 g18 g19 g20) : FnG P w K mg base (k + 1) f16 g16 ["kind"] (spF K fd16.md (runF W (modesOf T) (callF W T k) fd16)) :=
  fn_den fd16 M.F16 sc16 rfl rfl rfl fun cdv A outer s H E hr hgd => by
    have hu : (A.deeper (envOfC "end_of" (defScope s16) s.heap.objs.size f16 cdv)).units + 100 < cLine := by have := hr.un; omega
    have hc : (A.deeper (envOfC "end_of" (defScope s16) s.heap.objs.size f16 cdv)).units + 65 < cLine := by omega
    exact (bd_cons (sd_while PassesOwn.never (td_not (dtr (pd_call (f := 18) C.c18 hr hgd (by rfl) M.m_is_atom M.k18 M.b18 (ad_cons (dv 0) ad_nil)))) (bd_cons (dset 0 sc16.nd (pd_idx (dv 0) pd_int (fun _ _ => rfl))) bd_nil)) (bd_cons (sd_ret (dv 0)) bd_nil))
theorem ok17 (M : Top K mg f0 f1 f2 f3 f4 f5 f6 f7 f8 f9 f10 f11 f12 f13 f14 f15 f16 f17 f18 f19 f20 g0 g1 g2 g3 g4 g5 g6 g7 g8 g9 g10 g11 g12 g13 g14 g15 g16 g17 g18 g19 g20) (C : AllFn P w K mg base W k f0 f1 f2 f3 f4 f5 f6 f7 f8 f9 f10 f11 f12 f13 f14 f15 f16 f17 f18 f19 f20 g0 g1 g2 g3 g4 g5 g6 g7 g8 g9 g10 g11 g12 g13 g14 g15 g16 g17 g18 g19 g20) : FnG P w K mg base (k + 1) f17 g17 ["thing", "nested"] (spF K fd17.md (runF W (modesOf T) (callF W T k) fd17)) :=
  fn_den fd17 M.F17 sc17 rfl rfl rfl fun cdv A outer s H E hr hgd => by
    have hu : (A.deeper (envOfC "atoms_in" (defScope s17) s.heap.objs.size f17 cdv)).units + 100 < cLine := by have := hr.un; omega
    have hc : (A.deeper (envOfC "atoms_in" (defScope s17) s.heap.objs.size f17 cdv)).units + 65 < cLine := by omega
    exact (bd_cons (sd_ite (dtr (pd_call (f := 19) C.c19 hr hgd (by rfl) M.m_is_name M.k19 M.b19 (ad_cons (dv 0) ad_nil))) (bd_cons (sd_ret pd_int) bd_nil) bd_nil) (bd_cons (sd_ite (tdp (td_or (td_cmp .eq hc (dv 1) pd_int (nomark _)) (tor1 (td_not (dtr (pd_call (f := 20) C.c20 hr hgd (by rfl) M.m_is_tuple M.k20 M.b20 (ad_cons (dv 0) (ad_cons pd_int (ad_cons pd_int ad_nil))))))))) (bd_cons (sd_ret (pd_neg pd_int)) bd_nil) bd_nil) (bd_cons (sd_unpack (pd_lc (own := [("item", 4)]) (by decide) rfl sc17.nd (blkOk_by (by rfl)) (id_ex (dv 0)) (fun _ _ _ _ _ => (dn 4 sc17.nd)) (fun _ _ _ _ _ => cd_nil) (fun _ _ _ _ _ => (pd_call (f := 17) C.c17 hr hgd (by rfl) M.m_atoms_in M.k17 M.b17 (ad_cons (dv 4) (ad_cons (pd_bin .sub (dv 1) pd_int) ad_nil))))) (gd_t rfl (dngs 2 sc17.nd (dngs 3 sc17.nd ngs_nil)) rfl) (by rfl) (by rfl)) (bd_cons (sd_ret (pd_ite (tdp (td_or (td_cmp .lt hc (dv 2) pd_int (nomark _)) (tor1 (td_cmp .lt hc (dv 3) pd_int (nomark _))))) (pd_neg pd_int) (pd_bin .add (dv 2) (dv 3)))) bd_nil))))
theorem ok18 (M : Top K mg f0 f1 f2 f3 f4 f5 f6 f7 f8 f9 f10 f11 f12 f13 f14 f15 f16 f17 f18 f19 f20 g0 g1 g2 g3 g4 g5 g6 g7 g8 g9 g10 g11 g12 g13 g14 g15 g16 g17 g18 g19 g20) (C : AllFn P w K mg base W k f0 f1 f2 f3 f4 f5 f6 f7 f8 f9 f10 f11 f12 f13 f14 f15 f16 f17 f18 f19 f20 g0 g1 g2 g3 g4 g5 g6 g7 g8 g9 g10 g11 g12 g13 g14 g15 g16 g17 g18 g19 g20) : FnG P w K mg base (k + 1) f18 g18 ["kind"] (spF K fd18.md (runF W (modesOf T) (callF W T k) fd18)) :=
  fn_den fd18 M.F18 sc18 rfl rfl rfl fun cdv A outer s H E hr hgd => by
    have hu : (A.deeper (envOfC "is_atom" (defScope s18) s.heap.objs.size f18 cdv)).units + 100 < cLine := by have := hr.un; omega
    have hc : (A.deeper (envOfC "is_atom" (defScope s18) s.heap.objs.size f18 cdv)).units + 65 < cLine := by omega
    exact (bd_cons (sd_ret (pd_isi .str (by rfl) M.z_isinstance (dv 0) (by rfl) M.z_str bo_str)) bd_nil)
theorem ok19 (M : Top K mg f0 f1 f2 f3 f4 f5 f6 f7 f8 f9 f10 f11 f12 f13 f14 f15 f16 f17 f18 f19 f20 g0 g1 g2 g3 g4 g5 g6 g7 g8 g9 g10 g11 g12 g13 g14 g15 g16 g17 g18 g19 g20) (C : AllFn P w K mg base W k f0 f1 f2 f3 f4 f5 f6 f7 f8 f9 f10 f11 f12 f13 f14 f15 f16 f17 f18 f19 f20 g0 g1 g2 g3 g4 g5 g6 g7 g8 g9 g10 g11 g12 g13 g14 g15 g16 g17 g18 g19 g20) : FnG P w K mg base (k + 1) f19 g19 ["thing"] (spF K fd19.md (runF W (modesOf T) (callF W T k) fd19)) :=
  fn_den fd19 M.F19 sc19 rfl rfl rfl fun cdv A outer s H E hr hgd => by
    have hu : (A.deeper (envOfC "is_name" (defScope s19) s.heap.objs.size f19 cdv)).units + 100 < cLine := by have := hr.un; omega
    have hc : (A.deeper (envOfC "is_name" (defScope s19) s.heap.objs.size f19 cdv)).units + 65 < cLine := by omega
    exact (bd_cons (sd_ret (pd_and (pd_isi .str (by rfl) M.z_isinstance (dv 0) (by rfl) M.z_str bo_str) (pd_and (pd_chain .le .le hc pd_int (pd_bltB .len call_lenD (by rfl) M.z_len bo_len (rd_cons (dv 0) rd_nil)) (dgi M.c_MOST_LETTERS) (by rfl)) (pd_one (pd_bltB .all (call_allD rfl) (by rfl) M.z_all bo_all (rd_cons (pd_lc (own := [("sign", 1)]) (by decide) rfl sc19.nd (blkOk_by (by rfl)) (id_ex (dv 0)) (fun _ _ _ _ _ => (dn 1 sc19.nd)) (fun _ _ _ _ _ => cd_nil) (fun _ _ _ _ _ => (pd_cmp .isin hc (dv 1) (dgs M.c_LETTERS) (by rfl)))) rd_nil)))))) bd_nil)
theorem ok20 (M : Top K mg f0 f1 f2 f3 f4 f5 f6 f7 f8 f9 f10 f11 f12 f13 f14 f15 f16 f17 f18 f19 f20 g0 g1 g2 g3 g4 g5 g6 g7 g8 g9 g10 g11 g12 g13 g14 g15 g16 g17 g18 g19 g20) (C : AllFn P w K mg base W k f0 f1 f2 f3 f4 f5 f6 f7 f8 f9 f10 f11 f12 f13 f14 f15 f16 f17 f18 f19 f20 g0 g1 g2 g3 g4 g5 g6 g7 g8 g9 g10 g11 g12 g13 g14 g15 g16 g17 g18 g19 g20) : FnG P w K mg base (k + 1) f20 g20 ["thing", "least", "most"] (spF K fd20.md (runF W (modesOf T) (callF W T k) fd20)) :=
  fn_den fd20 M.F20 sc20 rfl rfl rfl fun cdv A outer s H E hr hgd => by
    have hu : (A.deeper (envOfC "is_tuple" (defScope s20) s.heap.objs.size f20 cdv)).units + 100 < cLine := by have := hr.un; omega
    have hc : (A.deeper (envOfC "is_tuple" (defScope s20) s.heap.objs.size f20 cdv)).units + 65 < cLine := by omega
    exact (bd_cons (sd_ret (pd_and (pd_isi .tuple (by rfl) M.z_isinstance (dv 0) (by rfl) M.z_tuple bo_tuple) (pd_one (pd_chain .le .le hc (dv 1) (pd_bltB .len call_lenD (by rfl) M.z_len bo_len (rd_cons (dv 0) rd_nil)) (dv 2) (by rfl))))) bd_nil)
theorem calls (M : Top K mg f0 f1 f2 f3 f4 f5 f6 f7 f8 f9 f10 f11 f12 f13 f14 f15 f16 f17 f18 f19 f20 g0 g1 g2 g3 g4 g5 g6 g7 g8 g9 g10 g11 g12 g13 g14 g15 g16 g17 g18 g19 g20) : ∀ k, AllFn P w K mg base W k f0 f1 f2 f3 f4 f5 f6 f7 f8 f9 f10 f11 f12 f13 f14 f15 f16 f17 f18 f19 f20 g0 g1 g2 g3 g4 g5 g6 g7 g8 g9 g10 g11 g12 g13 g14 g15 g16 g17 g18 g19 g20
  | 0 => ⟨fn_zero, fn_zero, fn_zero, fn_zero, fn_zero, fn_zero, fn_zero, fn_zero, fn_zero, fn_zero, fn_zero, fn_zero, fn_zero, fn_zero, fn_zero, fn_zero, fn_zero, fn_zero, fn_zero, fn_zero, fn_zero⟩
  | k + 1 => have C := calls M k; ⟨ok0 M C, ok1 M C, ok2 M C, ok3 M C, ok4 M C, ok5 M C, ok6 M C, ok7 M C, ok8 M C, ok9 M C, ok10 M C, ok11 M C, ok12 M C, ok13 M C, ok14 M C, ok15 M C, ok16 M C, ok17 M C, ok18 M C, ok19 M C, ok20 M C⟩
end
theorem all_mk {l : PySem.W.OpenLaw} {w : World} {K : PySem.W.Frag} {h : Heap} {mg : Str → Option Value} {fa f0 f1 f2 f3 f4 f5 f6 f7 f8 f9 f10 f11 f12 f13 f14 f15 f16 f17 f18 f19 f20 : Addr} (X : K.In h) (G : h.Ns mainGlobals mg) (hfa : mg "law" = some (.ref fa))
    {od0 an0 od1 an1 od2 an2 od3 an3 od4 an4 od5 an5 od6 an6 od7 an7 od8 an8 od9 an9 od10 an10 od11 an11 od12 an12 od13 an13 od14 an14 od15 an15 od16 an16 od17 an17 od18 an18 od19 an19 od20 an20 : Option Addr} {sl0 sl1 sl2 sl3 sl4 sl5 sl6 sl7 sl8 sl9 sl10 sl11 sl12 sl13 sl14 sl15 sl16 sl17 sl18 sl19 sl20 : Array (Option Value)} {oc0 kV0 dc0 pm0 cd0 ct0 oc1 kV1 dc1 pm1 cd1 ct1 oc2 kV2 dc2 pm2 cd2 ct2 oc3 kV3 dc3 pm3 cd3 ct3 oc4 kV4 dc4 pm4 cd4 ct4 oc5 kV5 dc5 pm5 cd5 ct5 oc6 kV6 dc6 pm6 cd6 ct6 oc7 kV7 dc7 pm7 cd7 ct7 oc8 kV8 dc8 pm8 cd8 ct8 oc9 kV9 dc9 pm9 cd9 ct9 oc10 kV10 dc10 pm10 cd10 ct10 oc11 kV11 dc11 pm11 cd11 ct11 oc12 kV12 dc12 pm12 cd12 ct12 oc13 kV13 dc13 pm13 cd13 ct13 oc14 kV14 dc14 pm14 cd14 ct14 oc15 kV15 dc15 pm15 cd15 ct15 oc16 kV16 dc16 pm16 cd16 ct16 oc17 kV17 dc17 pm17 cd17 ct17 oc18 kV18 dc18 pm18 cd18 ct18 oc19 kV19 dc19 pm19 cd19 ct19 oc20 kV20 dc20 pm20 cd20 ct20 : Value}
    {t_MOST_NESTED t_MOST_ATOMS t_MOST_LETTERS t_LETTERS : Nat}
    (a__law_hand : PySem.W.nsIn K mainGlobals "_law_hand" = some (some (.ref f1)))
    (a__law_is_known_right : PySem.W.nsIn K mainGlobals "_law_is_known_right" = some (some (.ref f2)))
    (a__law_kind : PySem.W.nsIn K mainGlobals "_law_kind" = some (some (.ref f3)))
    (a__law_draw : PySem.W.nsIn K mainGlobals "_law_draw" = some (some (.ref f4)))
    (a__law_some : PySem.W.nsIn K mainGlobals "_law_some" = some (some (.ref f5)))
    (a__law_is_right : PySem.W.nsIn K mainGlobals "_law_is_right" = some (some (.ref f6)))
    (a__law_atom : PySem.W.nsIn K mainGlobals "_law_atom" = some (some (.ref f7)))
    (a__law_is : PySem.W.nsIn K mainGlobals "_law_is" = some (some (.ref f8)))
    (a_parts : PySem.W.nsIn K mainGlobals "parts" = some (some (.ref f9)))
    (a_end : PySem.W.nsIn K mainGlobals "end" = some (some (.ref f10)))
    (a__law_pieces : PySem.W.nsIn K mainGlobals "_law_pieces" = some (some (.ref f11)))
    (a__law_last : PySem.W.nsIn K mainGlobals "_law_last" = some (some (.ref f12)))
    (a_is_kind : PySem.W.nsIn K mainGlobals "is_kind" = some (some (.ref f13)))
    (a_check_kind : PySem.W.nsIn K mainGlobals "check_kind" = some (some (.ref f14)))
    (a_parts_of : PySem.W.nsIn K mainGlobals "parts_of" = some (some (.ref f15)))
    (a_end_of : PySem.W.nsIn K mainGlobals "end_of" = some (some (.ref f16)))
    (a_atoms_in : PySem.W.nsIn K mainGlobals "atoms_in" = some (some (.ref f17)))
    (a_is_atom : PySem.W.nsIn K mainGlobals "is_atom" = some (some (.ref f18)))
    (a_is_name : PySem.W.nsIn K mainGlobals "is_name" = some (some (.ref f19)))
    (a_is_tuple : PySem.W.nsIn K mainGlobals "is_tuple" = some (some (.ref f20)))
    (a_law : PySem.W.nsIn K mainGlobals "law" = some (some (.ref f0)))
    (l0 : K.lookup f0 = some ⟨oc0, od0, .func (PySem.W.fnOf "law" "law" (defArgs s0) (defBody s0) (defScope s0) .none kV0 dc0 pm0 an0 cd0 ct0), sl0⟩) (c0 : PySem.W.codeIn K cd0 "law" = true) (k0 : PySem.W.keepIn K (.ref f0) = true)
    (l1 : K.lookup f1 = some ⟨oc1, od1, .func (PySem.W.fnOf "_law_hand" "_law_hand" (defArgs s1) (defBody s1) (defScope s1) .none kV1 dc1 pm1 an1 cd1 ct1), sl1⟩) (c1 : PySem.W.codeIn K cd1 "_law_hand" = true) (k1 : PySem.W.keepIn K (.ref f1) = true)
    (l2 : K.lookup f2 = some ⟨oc2, od2, .func (PySem.W.fnOf "_law_is_known_right" "_law_is_known_right" (defArgs s2) (defBody s2) (defScope s2) .none kV2 dc2 pm2 an2 cd2 ct2), sl2⟩) (c2 : PySem.W.codeIn K cd2 "_law_is_known_right" = true) (k2 : PySem.W.keepIn K (.ref f2) = true)
    (l3 : K.lookup f3 = some ⟨oc3, od3, .func (PySem.W.fnOf "_law_kind" "_law_kind" (defArgs s3) (defBody s3) (defScope s3) .none kV3 dc3 pm3 an3 cd3 ct3), sl3⟩) (c3 : PySem.W.codeIn K cd3 "_law_kind" = true) (k3 : PySem.W.keepIn K (.ref f3) = true)
    (l4 : K.lookup f4 = some ⟨oc4, od4, .func (PySem.W.fnOf "_law_draw" "_law_draw" (defArgs s4) (defBody s4) (defScope s4) .none kV4 dc4 pm4 an4 cd4 ct4), sl4⟩) (c4 : PySem.W.codeIn K cd4 "_law_draw" = true) (k4 : PySem.W.keepIn K (.ref f4) = true)
    (l5 : K.lookup f5 = some ⟨oc5, od5, .func (PySem.W.fnOf "_law_some" "_law_some" (defArgs s5) (defBody s5) (defScope s5) .none kV5 dc5 pm5 an5 cd5 ct5), sl5⟩) (c5 : PySem.W.codeIn K cd5 "_law_some" = true) (k5 : PySem.W.keepIn K (.ref f5) = true)
    (l6 : K.lookup f6 = some ⟨oc6, od6, .func (PySem.W.fnOf "_law_is_right" "_law_is_right" (defArgs s6) (defBody s6) (defScope s6) .none kV6 dc6 pm6 an6 cd6 ct6), sl6⟩) (c6 : PySem.W.codeIn K cd6 "_law_is_right" = true) (k6 : PySem.W.keepIn K (.ref f6) = true)
    (l7 : K.lookup f7 = some ⟨oc7, od7, .func (PySem.W.fnOf "_law_atom" "_law_atom" (defArgs s7) (defBody s7) (defScope s7) .none kV7 dc7 pm7 an7 cd7 ct7), sl7⟩) (c7 : PySem.W.codeIn K cd7 "_law_atom" = true) (k7 : PySem.W.keepIn K (.ref f7) = true)
    (l8 : K.lookup f8 = some ⟨oc8, od8, .func (PySem.W.fnOf "_law_is" "_law_is" (defArgs s8) (defBody s8) (defScope s8) .none kV8 dc8 pm8 an8 cd8 ct8), sl8⟩) (c8 : PySem.W.codeIn K cd8 "_law_is" = true) (k8 : PySem.W.keepIn K (.ref f8) = true)
    (l9 : K.lookup f9 = some ⟨oc9, od9, .func (PySem.W.fnOf "parts" "parts" (defArgs s9) (defBody s9) (defScope s9) .none kV9 dc9 pm9 an9 cd9 ct9), sl9⟩) (c9 : PySem.W.codeIn K cd9 "parts" = true) (k9 : PySem.W.keepIn K (.ref f9) = true)
    (l10 : K.lookup f10 = some ⟨oc10, od10, .func (PySem.W.fnOf "end" "end" (defArgs s10) (defBody s10) (defScope s10) .none kV10 dc10 pm10 an10 cd10 ct10), sl10⟩) (c10 : PySem.W.codeIn K cd10 "end" = true) (k10 : PySem.W.keepIn K (.ref f10) = true)
    (l11 : K.lookup f11 = some ⟨oc11, od11, .func (PySem.W.fnOf "_law_pieces" "_law_pieces" (defArgs s11) (defBody s11) (defScope s11) .none kV11 dc11 pm11 an11 cd11 ct11), sl11⟩) (c11 : PySem.W.codeIn K cd11 "_law_pieces" = true) (k11 : PySem.W.keepIn K (.ref f11) = true)
    (l12 : K.lookup f12 = some ⟨oc12, od12, .func (PySem.W.fnOf "_law_last" "_law_last" (defArgs s12) (defBody s12) (defScope s12) .none kV12 dc12 pm12 an12 cd12 ct12), sl12⟩) (c12 : PySem.W.codeIn K cd12 "_law_last" = true) (k12 : PySem.W.keepIn K (.ref f12) = true)
    (l13 : K.lookup f13 = some ⟨oc13, od13, .func (PySem.W.fnOf "is_kind" "is_kind" (defArgs s13) (defBody s13) (defScope s13) .none kV13 dc13 pm13 an13 cd13 ct13), sl13⟩) (c13 : PySem.W.codeIn K cd13 "is_kind" = true) (k13 : PySem.W.keepIn K (.ref f13) = true)
    (l14 : K.lookup f14 = some ⟨oc14, od14, .func (PySem.W.fnOf "check_kind" "check_kind" (defArgs s14) (defBody s14) (defScope s14) .none kV14 dc14 pm14 an14 cd14 ct14), sl14⟩) (c14 : PySem.W.codeIn K cd14 "check_kind" = true) (k14 : PySem.W.keepIn K (.ref f14) = true)
    (l15 : K.lookup f15 = some ⟨oc15, od15, .func (PySem.W.fnOf "parts_of" "parts_of" (defArgs s15) (defBody s15) (defScope s15) .none kV15 dc15 pm15 an15 cd15 ct15), sl15⟩) (c15 : PySem.W.codeIn K cd15 "parts_of" = true) (k15 : PySem.W.keepIn K (.ref f15) = true)
    (l16 : K.lookup f16 = some ⟨oc16, od16, .func (PySem.W.fnOf "end_of" "end_of" (defArgs s16) (defBody s16) (defScope s16) .none kV16 dc16 pm16 an16 cd16 ct16), sl16⟩) (c16 : PySem.W.codeIn K cd16 "end_of" = true) (k16 : PySem.W.keepIn K (.ref f16) = true)
    (l17 : K.lookup f17 = some ⟨oc17, od17, .func (PySem.W.fnOf "atoms_in" "atoms_in" (defArgs s17) (defBody s17) (defScope s17) .none kV17 dc17 pm17 an17 cd17 ct17), sl17⟩) (c17 : PySem.W.codeIn K cd17 "atoms_in" = true) (k17 : PySem.W.keepIn K (.ref f17) = true)
    (l18 : K.lookup f18 = some ⟨oc18, od18, .func (PySem.W.fnOf "is_atom" "is_atom" (defArgs s18) (defBody s18) (defScope s18) .none kV18 dc18 pm18 an18 cd18 ct18), sl18⟩) (c18 : PySem.W.codeIn K cd18 "is_atom" = true) (k18 : PySem.W.keepIn K (.ref f18) = true)
    (l19 : K.lookup f19 = some ⟨oc19, od19, .func (PySem.W.fnOf "is_name" "is_name" (defArgs s19) (defBody s19) (defScope s19) .none kV19 dc19 pm19 an19 cd19 ct19), sl19⟩) (c19 : PySem.W.codeIn K cd19 "is_name" = true) (k19 : PySem.W.keepIn K (.ref f19) = true)
    (l20 : K.lookup f20 = some ⟨oc20, od20, .func (PySem.W.fnOf "is_tuple" "is_tuple" (defArgs s20) (defBody s20) (defScope s20) .none kV20 dc20 pm20 an20 cd20 ct20), sl20⟩) (c20 : PySem.W.codeIn K cd20 "is_tuple" = true) (k20 : PySem.W.keepIn K (.ref f20) = true)
    (z_abs : PySem.W.nsIn K mainGlobals "abs" = some none)
    (z_all : PySem.W.nsIn K mainGlobals "all" = some none)
    (z_bool : PySem.W.nsIn K mainGlobals "bool" = some none)
    (z_int : PySem.W.nsIn K mainGlobals "int" = some none)
    (z_isinstance : PySem.W.nsIn K mainGlobals "isinstance" = some none)
    (z_len : PySem.W.nsIn K mainGlobals "len" = some none)
    (z_list : PySem.W.nsIn K mainGlobals "list" = some none)
    (z_range : PySem.W.nsIn K mainGlobals "range" = some none)
    (z_repr : PySem.W.nsIn K mainGlobals "repr" = some none)
    (z_str : PySem.W.nsIn K mainGlobals "str" = some none)
    (z_tuple : PySem.W.nsIn K mainGlobals "tuple" = some none)
    (v_MOST_NESTED : PySem.W.nsIn K mainGlobals "MOST_NESTED" = some (some (.int 15 t_MOST_NESTED)))
    (v_MOST_ATOMS : PySem.W.nsIn K mainGlobals "MOST_ATOMS" = some (some (.int 30 t_MOST_ATOMS)))
    (v_MOST_LETTERS : PySem.W.nsIn K mainGlobals "MOST_LETTERS" = some (some (.int 8 t_MOST_LETTERS)))
    (v_LETTERS : PySem.W.nsIn K mainGlobals "LETTERS" = some (some (.str "abcdefghijklmnopqrstuvwxyz" t_LETTERS)))
    : ∃ fd : FuncData, (∀ (s : Shared) (v : Value), BindsTo s fd ⟨[v], []⟩ [("script", v)]) ∧ ∀ base : Heap, K.In base → base.Ns mainGlobals mg → FnG l.prog w K mg base 60 fa fd ["script"] (spF K fd0.md (callF 100 T 60 0)) := by
  have e := hfa.symm.trans (PySem.W.mg_of X G a_law)
  cases e
  have F0 := fun_mk (st := s0) l0 c0 k0
  have F1 := fun_mk (st := s1) l1 c1 k1
  have F2 := fun_mk (st := s2) l2 c2 k2
  have F3 := fun_mk (st := s3) l3 c3 k3
  have F4 := fun_mk (st := s4) l4 c4 k4
  have F5 := fun_mk (st := s5) l5 c5 k5
  have F6 := fun_mk (st := s6) l6 c6 k6
  have F7 := fun_mk (st := s7) l7 c7 k7
  have F8 := fun_mk (st := s8) l8 c8 k8
  have F9 := fun_mk (st := s9) l9 c9 k9
  have F10 := fun_mk (st := s10) l10 c10 k10
  have F11 := fun_mk (st := s11) l11 c11 k11
  have F12 := fun_mk (st := s12) l12 c12 k12
  have F13 := fun_mk (st := s13) l13 c13 k13
  have F14 := fun_mk (st := s14) l14 c14 k14
  have F15 := fun_mk (st := s15) l15 c15 k15
  have F16 := fun_mk (st := s16) l16 c16 k16
  have F17 := fun_mk (st := s17) l17 c17 k17
  have F18 := fun_mk (st := s18) l18 c18 k18
  have F19 := fun_mk (st := s19) l19 c19 k19
  have F20 := fun_mk (st := s20) l20 c20 k20
  have b0 := F0.binds (ps := ["script"]) fun _ _ _ _ _ _ us hl => match us, hl with | [_], _ => rfl
  have b1 := F1.binds (ps := ["script"]) fun _ _ _ _ _ _ us hl => match us, hl with | [_], _ => rfl
  have b2 := F2.binds (ps := []) fun _ _ _ _ _ _ us hl => match us, hl with | [], _ => rfl
  have b3 := F3.binds (ps := ["hand", "limit"]) fun _ _ _ _ _ _ us hl => match us, hl with | [_, _], _ => rfl
  have b4 := F4.binds (ps := ["hand", "limit"]) fun _ _ _ _ _ _ us hl => match us, hl with | [_, _], _ => rfl
  have b5 := F5.binds (ps := ["hand", "things"]) fun _ _ _ _ _ _ us hl => match us, hl with | [_, _], _ => rfl
  have b6 := F6.binds (ps := ["kind"]) fun _ _ _ _ _ _ us hl => match us, hl with | [_], _ => rfl
  have b7 := F7.binds (ps := ["hand"]) fun _ _ _ _ _ _ us hl => match us, hl with | [_], _ => rfl
  have b8 := F8.binds (ps := ["told", "due"]) fun _ _ _ _ _ _ us hl => match us, hl with | [_, _], _ => rfl
  have b9 := F9.binds (ps := ["kind"]) fun _ _ _ _ _ _ us hl => match us, hl with | [_], _ => rfl
  have b10 := F10.binds (ps := ["kind"]) fun _ _ _ _ _ _ us hl => match us, hl with | [_], _ => rfl
  have b11 := F11.binds (ps := ["kind"]) fun _ _ _ _ _ _ us hl => match us, hl with | [_], _ => rfl
  have b12 := F12.binds (ps := ["kind"]) fun _ _ _ _ _ _ us hl => match us, hl with | [_], _ => rfl
  have b13 := F13.binds (ps := ["thing"]) fun _ _ _ _ _ _ us hl => match us, hl with | [_], _ => rfl
  have b14 := F14.binds (ps := ["thing"]) fun _ _ _ _ _ _ us hl => match us, hl with | [_], _ => rfl
  have b15 := F15.binds (ps := ["kind"]) fun _ _ _ _ _ _ us hl => match us, hl with | [_], _ => rfl
  have b16 := F16.binds (ps := ["kind"]) fun _ _ _ _ _ _ us hl => match us, hl with | [_], _ => rfl
  have b17 := F17.binds (ps := ["thing", "nested"]) fun _ _ _ _ _ _ us hl => match us, hl with | [_, _], _ => rfl
  have b18 := F18.binds (ps := ["kind"]) fun _ _ _ _ _ _ us hl => match us, hl with | [_], _ => rfl
  have b19 := F19.binds (ps := ["thing"]) fun _ _ _ _ _ _ us hl => match us, hl with | [_], _ => rfl
  have b20 := F20.binds (ps := ["thing", "least", "most"]) fun _ _ _ _ _ _ us hl => match us, hl with | [_, _, _], _ => rfl
  exact ⟨_, fun s v => .of_eq rfl, fun base _ _ => (calls (P := l.prog) (w := w) (base := base) (W := 100) (⟨F0, b0, k0, F1, b1, k1, F2, b2, k2, F3, b3, k3, F4, b4, k4, F5, b5, k5, F6, b6, k6, F7, b7, k7, F8, b8, k8, F9, b9, k9, F10, b10, k10, F11, b11, k11, F12, b12, k12, F13, b13, k13, F14, b14, k14, F15, b15, k15, F16, b16, k16, F17, b17, k17, F18, b18, k18, F19, b19, k19, F20, b20, k20, PySem.W.mg_of X G a__law_hand, PySem.W.mg_of X G a__law_is_known_right, PySem.W.mg_of X G a__law_kind, PySem.W.mg_of X G a__law_draw, PySem.W.mg_of X G a__law_some, PySem.W.mg_of X G a__law_is_right, PySem.W.mg_of X G a__law_atom, PySem.W.mg_of X G a__law_is, PySem.W.mg_of X G a_parts, PySem.W.mg_of X G a_end, PySem.W.mg_of X G a__law_pieces, PySem.W.mg_of X G a__law_last, PySem.W.mg_of X G a_is_kind, PySem.W.mg_of X G a_check_kind, PySem.W.mg_of X G a_parts_of, PySem.W.mg_of X G a_end_of, PySem.W.mg_of X G a_atoms_in, PySem.W.mg_of X G a_is_atom, PySem.W.mg_of X G a_is_name, PySem.W.mg_of X G a_is_tuple, PySem.W.mg_of X G a_law, PySem.W.mg_none_of X G z_abs, PySem.W.mg_none_of X G z_all, PySem.W.mg_none_of X G z_bool, PySem.W.mg_none_of X G z_int, PySem.W.mg_none_of X G z_isinstance, PySem.W.mg_none_of X G z_len, PySem.W.mg_none_of X G z_list, PySem.W.mg_none_of X G z_range, PySem.W.mg_none_of X G z_repr, PySem.W.mg_none_of X G z_str, PySem.W.mg_none_of X G z_tuple, ⟨_, PySem.W.mg_of X G v_MOST_NESTED⟩, ⟨_, PySem.W.mg_of X G v_MOST_ATOMS⟩, ⟨_, PySem.W.mg_of X G v_MOST_LETTERS⟩, ⟨_, PySem.W.mg_of X G v_LETTERS⟩⟩ : Top K mg _ f1 f2 f3 f4 f5 f6 f7 f8 f9 f10 f11 f12 f13 f14 f15 f16 f17 f18 f19 f20 _ _ _ _ _ _ _ _ _ _ _ _ _ _ _ _ _ _ _ _ _) 60).c0⟩
end Law
namespace Law
open PySem Dn
def hnd (cells : List Int) (i a b c : Int) : PyData := .list [.list (cells.map .int), .int i, .int a, .int b, .int c]
theorem modN {x y : Int} (h : 0 < y) : 0 ≤ x % y ∧ x % y < y := ⟨Int.emod_nonneg _ (by omega), Int.emod_lt_of_pos _ h⟩
theorem mul1 {x b n : Int} (hn : 0 < n) (hm : n ≤ 18446744073709551616) : binD .mul (.int (x % n)) (.int b) = some (.val (.int (x % n * b))) := by
  have := modN (x := x) hn
  exact bin_mulL ⟨by omega, by omega⟩
theorem draw {k : Nat} {cells : List Int} {i a b c lim : Int} (hi : 0 ≤ i) (h0 : 0 < lim) (h1 : lim < 1073741824) : ∃ r i' a' b' c', 0 ≤ r ∧ r < lim ∧ 0 ≤ i' ∧
    callF 100 T (k + 1) 4 [.own (hnd cells i a b c), .val (.int lim)] = .ok (.val (.int r)) [.own (hnd cells i' a' b' c'), .val (.int lim)] := by
  rw [callF_eq T_4 rfl]
  by_cases c1 : a = 0
  · by_cases c2 : i < cells.length
    · by_cases c3 : 1000000000000000000 ≤ cells[i.toNat]
      · have c4 : 0 < cells[i.toNat] := by omega
        simp -implicitDefEqProofs [fd4, b4, hnd, c1, c2, c3, c4, hi, h0, h1, bin_mulR, bin_mulL, mul1]
        first | exact modN h0 | exact ⟨_, (modN h0).1, (modN h0).2, by omega, rfl⟩ | exact ⟨_, (modN h0).1, (modN h0).2, rfl⟩
      · simp -implicitDefEqProofs [fd4, b4, hnd, c1, c2, c3, hi, h0, h1, bin_mulR, bin_mulL, mul1]
        first | exact modN h0 | exact ⟨_, (modN h0).1, (modN h0).2, by omega, rfl⟩ | exact ⟨_, (modN h0).1, (modN h0).2, rfl⟩
    · simp -implicitDefEqProofs [fd4, b4, hnd, c1, c2, hi, h0, h1, bin_mulR, bin_mulL, mul1]
      first | exact modN h0 | exact ⟨_, (modN h0).1, (modN h0).2, by omega, rfl⟩ | exact ⟨_, (modN h0).1, (modN h0).2, rfl⟩
  · by_cases c4 : 0 < a
    · simp -implicitDefEqProofs [fd4, b4, hnd, c1, c4, hi, h0, h1, bin_mulR, bin_mulL, mul1]
      first | exact modN h0 | exact ⟨_, (modN h0).1, (modN h0).2, by omega, rfl⟩ | exact ⟨_, (modN h0).1, (modN h0).2, rfl⟩
    · simp -implicitDefEqProofs [fd4, b4, hnd, c1, c4, hi, h0, h1, bin_mulR, bin_mulL, mul1]
      first | exact modN h0 | exact ⟨_, (modN h0).1, (modN h0).2, by omega, rfl⟩ | exact ⟨_, (modN h0).1, (modN h0).2, rfl⟩
end Law
namespace Law
open PySem Dn
inductive Kd where
  | a (s : Str) | f (l r : Kd)
def Kd.d : Kd → PyData
  | .a s => .str s
  | .f l r => .tuple [l.d, r.d]
def Kd.n : Kd → Nat
  | .a _ => 1
  | .f l r => l.n + r.n
def Kd.h : Kd → Nat
  | .a _ => 0
  | .f l r => max l.h r.h + 1
def Kd.ok : Kd → Prop
  | .a s => s ∈ (["a", "b", "c", "d", "abcdefgh"] : List Str)
  | .f l r => l.ok ∧ r.ok
theorem Kd.n_pos : ∀ t : Kd, 1 ≤ t.n
  | .a _ => Nat.le_refl _
  | .f l r => Nat.le_trans l.n_pos (Nat.le_add_right _ _)
theorem Kd.h_n : ∀ t : Kd, t.h + 1 ≤ t.n
  | .a _ => Nat.le_refl _
  | .f l r => by
    have h1 := l.h_n
    have h2 := r.h_n
    show max l.h r.h + 1 + 1 ≤ l.n + r.n
    omega
theorem name_a {k : Nat} {s : Str} (h : s ∈ (["a", "b", "c", "d", "abcdefgh"] : List Str)) : callF 100 T (k + 1) 19 [.val (.str s)] = .ok (.val (.bool true)) [.val (.str s)] := by
  simp only [List.mem_cons, List.not_mem_nil, or_false] at h
  rcases h with rfl | rfl | rfl | rfl | rfl <;> kernel_rfl
theorem name_f {k : Nat} {l : List PyData} : callF 100 T (k + 1) 19 [.val (.tuple l)] = .ok (.val (.bool false)) [.val (.tuple l)] := by
  rw [callF_eq T_19 rfl]
  simp -implicitDefEqProofs [fd19, b19, isTy]
theorem tup2 {k : Nat} {x y : PyData} : callF 100 T (k + 1) 20 [.val (.tuple [x, y]), .val (.int 2), .val (.int 2)] = .ok (.val (.bool true)) [.val (.tuple [x, y]), .val (.int 2), .val (.int 2)] := by
  rw [callF_eq T_20 rfl]
  simp -implicitDefEqProofs [fd20, b20, isTy]
theorem atoms : ∀ (t : Kd), t.ok → ∀ (m k : Nat), t.h ≤ m → t.h + 2 ≤ k → callF 100 T k 17 [.val t.d, .val (.int m)] = .ok (.val (.int t.n)) [.val t.d, .val (.int m)]
  | .a s, ho, m, k, h1, h2 => by
    obtain ⟨k, rfl⟩ : ∃ j, k = j + 2 := ⟨k - 2, by omega⟩
    rw [callF_eq T_17 rfl]
    simp -implicitDefEqProofs [fd17, b17, Kd.d, Kd.n, fd19, name_a ho]
  | .f l r, ho, m, k, h1, h2 => by
    have h1 : max l.h r.h + 1 ≤ m := h1
    have h2 : max l.h r.h + 1 + 2 ≤ k := h2
    obtain ⟨k, rfl⟩ : ∃ j, k = j + 2 := ⟨k - 2, by omega⟩
    have e : (m : Int) - 1 = ((m - 1 : Nat) : Int) := by omega
    have il := atoms l ho.1 (m - 1) (k + 1) (by omega) (by omega)
    have ir := atoms r ho.2 (m - 1) (k + 1) (by omega) (by omega)
    have pl := l.n_pos
    have pr := r.n_pos
    have m0 : ¬ m = 0 := by omega
    have nl : ¬ (l.n : Int) < 0 := by omega
    have nr : ¬ (r.n : Int) < 0 := by omega
    rw [callF_eq T_17 rfl]
    simp -implicitDefEqProofs [fd17, b17, Kd.d, Kd.n, fd19, fd20, name_f, tup2, m0, lcE, compL, e, il, ir, nl, nr]
end Law
namespace Law
open PySem Dn
def Kd.ps : Kd → List Kd
  | .a _ => []
  | .f l r => l :: r.ps
def Kd.e : Kd → Str
  | .a s => s
  | .f _ r => r.e
theorem Kd.ps_h : ∀ t : Kd, t.ps.length ≤ t.h
  | .a _ => Nat.le_refl _
  | .f l r => by
    have := r.ps_h
    show r.ps.length + 1 ≤ max l.h r.h + 1
    omega
abbrev md' : Nat → List Bool := fun g => ((T[g]?).map (fun (x : FD) => x.md)).getD []
theorem atom_s {k : Nat} {s : Str} : callF 100 T (k + 1) 18 [.val (.str s)] = .ok (.val (.bool true)) [.val (.str s)] := by
  rw [callF_eq T_18 rfl]
  simp -implicitDefEqProofs [fd18, b18, isTy]
theorem atom_t {k : Nat} {l : List PyData} : callF 100 T (k + 1) 18 [.val (.tuple l)] = .ok (.val (.bool false)) [.val (.tuple l)] := by
  rw [callF_eq T_18 rfl]
  simp -implicitDefEqProofs [fd18, b18, isTy]
theorem loop15 {k : Nat} : ∀ (t : Kd) (n : Nat) (acc : List PyData), t.ps.length < n → acc.length + t.ps.length ≤ 1000 →
    whileE 100 [false] md' (callF 100 T (k + 1)) (.not (.call 18 [.v 0])) [.app 1 (.idx (.v 0) (.c (.int 0))), .set 0 (.idx (.v 0) (.c (.int 1)))] n [.val t.d, .own (.list acc)] = .ok .nx [.val (.str t.e), .own (.list (acc ++ t.ps.map Kd.d))]
  | .a s, n, acc, h, h2 => by
    obtain ⟨n, rfl⟩ : ∃ j, n = j + 1 := ⟨n - 1, by omega⟩
    rw [whileE_succ]
    simp -implicitDefEqProofs [Kd.d, Kd.e, Kd.ps, fd18, atom_s]
  | .f l r, n, acc, h, h2 => by
    have h : r.ps.length + 1 < n := h
    have h2 : acc.length + (r.ps.length + 1) ≤ 1000 := h2
    obtain ⟨n, rfl⟩ : ∃ j, n = j + 1 := ⟨n - 1, by omega⟩
    have a1 : acc.length < 16777216 := by omega
    rw [whileE_succ]
    simp -implicitDefEqProofs [Kd.d, Kd.e, Kd.ps, fd18, atom_t, a1]
    have := loop15 (k := k) r n (acc ++ [l.d]) (by omega) (by simp; omega)
    try simp at this
    exact this
theorem loop16 {k : Nat} : ∀ (t : Kd) (n : Nat), t.ps.length < n →
    whileE 100 [false] md' (callF 100 T (k + 1)) (.not (.call 18 [.v 0])) [.set 0 (.idx (.v 0) (.c (.int 1)))] n [.val t.d] = .ok .nx [.val (.str t.e)]
  | .a s, n, h => by
    obtain ⟨n, rfl⟩ : ∃ j, n = j + 1 := ⟨n - 1, by omega⟩
    rw [whileE_succ]
    simp -implicitDefEqProofs [Kd.d, Kd.e, Kd.ps, fd18, atom_s]
  | .f l r, n, h => by
    have h : r.ps.length + 1 < n := h
    obtain ⟨n, rfl⟩ : ∃ j, n = j + 1 := ⟨n - 1, by omega⟩
    rw [whileE_succ]
    simp -implicitDefEqProofs [Kd.d, Kd.e, Kd.ps, fd18, atom_t]
    have := loop16 (k := k) r n (by omega)
    try simp at this
    exact this
theorem loop11 {call : Calls} : ∀ (t : Kd) (n : Nat) (acc : List PyData), t.ps.length < n → acc.length + t.ps.length ≤ 1000 →
    whileE 100 [false] md' call (.not (.isi (.v 0) [.str])) [.app 1 (.idx (.v 0) (.c (.int 0))), .set 0 (.idx (.v 0) (.c (.int 1)))] n [.val t.d, .own (.list acc)] = .ok .nx [.val (.str t.e), .own (.list (acc ++ t.ps.map Kd.d))]
  | .a s, n, acc, h, h2 => by
    obtain ⟨n, rfl⟩ : ∃ j, n = j + 1 := ⟨n - 1, by omega⟩
    rw [whileE_succ]
    simp -implicitDefEqProofs [Kd.d, Kd.e, Kd.ps, isTy]
  | .f l r, n, acc, h, h2 => by
    have h : r.ps.length + 1 < n := h
    have h2 : acc.length + (r.ps.length + 1) ≤ 1000 := h2
    obtain ⟨n, rfl⟩ : ∃ j, n = j + 1 := ⟨n - 1, by omega⟩
    have a1 : acc.length < 16777216 := by omega
    rw [whileE_succ]
    simp -implicitDefEqProofs [Kd.d, Kd.e, Kd.ps, isTy, a1]
    have := loop11 (call := call) r n (acc ++ [l.d]) (by omega) (by simp; omega)
    try simp -implicitDefEqProofs [isTy] at this
    exact this
theorem loop12 {call : Calls} : ∀ (t : Kd) (n : Nat), t.ps.length < n →
    whileE 100 [false] md' call (.not (.isi (.v 0) [.str])) [.set 0 (.idx (.v 0) (.c (.int 1)))] n [.val t.d] = .ok .nx [.val (.str t.e)]
  | .a s, n, h => by
    obtain ⟨n, rfl⟩ : ∃ j, n = j + 1 := ⟨n - 1, by omega⟩
    rw [whileE_succ]
    simp -implicitDefEqProofs [Kd.d, Kd.e, Kd.ps, isTy]
  | .f l r, n, h => by
    have h : r.ps.length + 1 < n := h
    obtain ⟨n, rfl⟩ : ∃ j, n = j + 1 := ⟨n - 1, by omega⟩
    rw [whileE_succ]
    simp -implicitDefEqProofs [Kd.d, Kd.e, Kd.ps, isTy]
    have := loop12 (call := call) r n (by omega)
    try simp -implicitDefEqProofs [isTy] at this
    exact this
theorem parts_of {k : Nat} {t : Kd} (h : t.h ≤ 50) : callF 100 T (k + 2) 15 [.val t.d] = .ok (.val (.tuple (t.ps.map Kd.d))) [.val (.str t.e)] := by
  have := t.ps_h
  have l := loop15 (k := k) t 100 [] (by omega) (by simp; omega)
  try simp at l
  rw [callF_eq T_15 rfl]
  simp -implicitDefEqProofs [fd15, b15, l]
theorem end_of {k : Nat} {t : Kd} (h : t.h ≤ 50) : callF 100 T (k + 2) 16 [.val t.d] = .ok (.val (.str t.e)) [.val (.str t.e)] := by
  have := t.ps_h
  have l := loop16 (k := k) t 100 (by omega)
  try simp at l
  rw [callF_eq T_16 rfl]
  simp -implicitDefEqProofs [fd16, b16, l]
theorem pieces {k : Nat} {t : Kd} (h : t.h ≤ 50) : callF 100 T (k + 1) 11 [.val t.d] = .ok (.fr (.list (t.ps.map Kd.d))) [.val (.str t.e)] := by
  have := t.ps_h
  have l := loop11 (call := callF 100 T k) t 100 [] (by omega) (by simp; omega)
  try simp at l
  rw [callF_eq T_11 rfl]
  simp -implicitDefEqProofs [fd11, b11, l]
theorem last {k : Nat} {t : Kd} (h : t.h ≤ 50) : callF 100 T (k + 1) 12 [.val t.d] = .ok (.val (.str t.e)) [.val (.str t.e)] := by
  have := t.ps_h
  have l := loop12 (call := callF 100 T k) t 100 (by omega)
  try simp at l
  rw [callF_eq T_12 rfl]
  simp -implicitDefEqProofs [fd12, b12, l]
theorem is_kind {k : Nat} {t : Kd} (ho : t.ok) (h : t.h ≤ 15) (hn : t.n ≤ 30) (hk : 18 ≤ k) : callF 100 T k 13 [.val t.d] = .ok (.val (.bool true)) [.val t.d] := by
  obtain ⟨k, rfl⟩ : ∃ j, k = j + 1 := ⟨k - 1, by omega⟩
  have e := atoms t ho 15 k (by omega) (by omega)
  have p := t.n_pos
  have n1 : (t.n : Int) ≤ 30 := by omega
  have n2 : (1 : Int) ≤ t.n := by omega
  have e : callF 100 T k 17 [.val t.d, .val (.int 15)] = _ := e
  rw [callF_eq T_13 rfl]
  simp -implicitDefEqProofs [fd13, b13, fd17, e, n1, n2]
theorem check {k : Nat} {t : Kd} (ho : t.ok) (h : t.h ≤ 15) (hn : t.n ≤ 30) (hk : 19 ≤ k) : callF 100 T k 14 [.val t.d] = .ok (.val .none) [.val t.d] := by
  obtain ⟨k, rfl⟩ : ∃ j, k = j + 1 := ⟨k - 1, by omega⟩
  rw [callF_eq T_14 rfl]
  simp -implicitDefEqProofs [fd14, b14, fd13, is_kind ho h hn (show 18 ≤ k by omega)]
theorem parts {k : Nat} {t : Kd} (ho : t.ok) (h : t.h ≤ 15) (hn : t.n ≤ 30) (hk : 20 ≤ k) : callF 100 T k 9 [.val t.d] = .ok (.val (.tuple (t.ps.map Kd.d))) [.val t.d] := by
  obtain ⟨k, rfl⟩ : ∃ j, k = j + 3 := ⟨k - 3, by omega⟩
  rw [callF_eq T_9 rfl]
  simp -implicitDefEqProofs [fd9, b9, fd14, fd15, check ho h hn (show 19 ≤ k + 2 by omega), parts_of (k := k) (t := t) (by omega)]
theorem end' {k : Nat} {t : Kd} (ho : t.ok) (h : t.h ≤ 15) (hn : t.n ≤ 30) (hk : 20 ≤ k) : callF 100 T k 10 [.val t.d] = .ok (.val (.str t.e)) [.val t.d] := by
  obtain ⟨k, rfl⟩ : ∃ j, k = j + 3 := ⟨k - 3, by omega⟩
  rw [callF_eq T_10 rfl]
  simp -implicitDefEqProofs [fd10, b10, fd14, fd16, check ho h hn (show 19 ≤ k + 2 by omega), end_of (k := k) (t := t) (by omega)]
end Law
namespace Law
open PySem Dn
/-- all items told right: the comprehension's list -/
theorem is_items {k : Nat} {c : PyData} {l : List PyData} (hc : c = .list l ∨ c = .tuple l) (hl : l.length ≤ 1000) (ih : ∀ x ∈ l, callF 100 T k 8 [.val x, .val x] = .ok (.val (.bool true)) [.val x, .val x]) :
    lcE [false, false] md' (callF 100 T k) [2] (.n 2) [] (.call 8 [.idx (.v 0) (.v 2), .idx (.v 1) (.v 2)]) ((List.range l.length).map fun (j : Nat) => PyData.int (j : Int)) [.val c, .val c, .un]
      = .ok (.fr (.list (((List.range l.length).map fun (j : Nat) => PyData.int (j : Int)).map fun _ => .bool true))) [.val c, .val c, .un] := by
  refine lc_map (ρ0 := [.val c, .val c, .un]) _ rfl (by simp; omega) rfl rfl fun d hd => ?_
  obtain ⟨j, hj, rfl⟩ := List.mem_map.mp hd
  have hj : j < l.length := List.mem_range.mp hj
  have e := ih l[j] (List.getElem_mem hj)
  refine ⟨[.val c, .val c, .val (.int j)], by simp, [.val c, .val c, .val (.int j)], ?_, by simp⟩
  rcases hc with rfl | rfl <;> simp [fd8, hj, e]
theorem is_list {k : Nat} {l : List PyData} (hl : l.length ≤ 1000) (ih : ∀ x ∈ l, callF 100 T k 8 [.val x, .val x] = .ok (.val (.bool true)) [.val x, .val x]) :
    callF 100 T (k + 1) 8 [.val (.list l), .val (.list l)] = .ok (.val (.bool true)) [.val (.list l), .val (.list l)] := by
  have c := is_items (k := k) (c := .list l) (.inl rfl) hl ih
  have bs : boolsOf (List.map ((fun _ => PyData.bool true) ∘ fun (j : Nat) => PyData.int ↑j) (List.range l.length)) = some ((List.range l.length).map fun _ => true) := boolsOf_map (fun _ => true) _
  have rg := range_nat (n := l.length) (by omega)
  rw [callF_eq T_8 rfl]
  simp -implicitDefEqProofs [fd8, b8, isTy, isNone, rg, c, bs]
theorem is_tuple {k : Nat} {l : List PyData} (hl : l.length ≤ 1000) (ih : ∀ x ∈ l, callF 100 T k 8 [.val x, .val x] = .ok (.val (.bool true)) [.val x, .val x]) :
    callF 100 T (k + 1) 8 [.val (.tuple l), .val (.tuple l)] = .ok (.val (.bool true)) [.val (.tuple l), .val (.tuple l)] := by
  have c := is_items (k := k) (c := .tuple l) (.inr rfl) hl ih
  have bs : boolsOf (List.map ((fun _ => PyData.bool true) ∘ fun (j : Nat) => PyData.int ↑j) (List.range l.length)) = some ((List.range l.length).map fun _ => true) := boolsOf_map (fun _ => true) _
  have rg := range_nat (n := l.length) (by omega)
  rw [callF_eq T_8 rfl]
  simp -implicitDefEqProofs [fd8, b8, isTy, isNone, rg, c, bs]
theorem is_flat {k : Nat} {d : PyData} (h : d = .none ∨ (∃ b, d = .bool b) ∨ (∃ i, d = .int i) ∨ ∃ s, d = .str s) : callF 100 T (k + 1) 8 [.val d, .val d] = .ok (.val (.bool true)) [.val d, .val d] := by
  rw [callF_eq T_8 rfl]
  rcases h with rfl | ⟨b, rfl⟩ | ⟨i, rfl⟩ | ⟨s, rfl⟩ <;> simp -implicitDefEqProofs [fd8, b8, isTy, isNone]
theorem is_refl : ∀ (m : Nat) (d : PyData) (k : Nat), d.depth ≤ m → m < k → nice d = true → callF 100 T k 8 [.val d, .val d] = .ok (.val (.bool true)) [.val d, .val d] := by
  intro m
  induction m with
  | zero =>
    intro d k hd hk hn
    obtain ⟨k, rfl⟩ : ∃ j, k = j + 1 := ⟨k - 1, by omega⟩
    cases d with
    | list l => exact absurd hd (by show ¬ PyData.depthAll l + 1 ≤ 0; omega)
    | tuple l => exact absurd hd (by show ¬ PyData.depthAll l + 1 ≤ 0; omega)
    | dict l => cases hn
    | none => exact is_flat (.inl rfl)
    | bool b => exact is_flat (.inr (.inl ⟨b, rfl⟩))
    | int i => exact is_flat (.inr (.inr (.inl ⟨i, rfl⟩)))
    | str s => exact is_flat (.inr (.inr (.inr ⟨s, rfl⟩)))
  | succ m ih =>
    intro d k hd hk hn
    obtain ⟨k, rfl⟩ : ∃ j, k = j + 1 := ⟨k - 1, by omega⟩
    have items : ∀ l : List PyData, PyData.depthAll l + 1 ≤ m + 1 → niceAll l = true → ∀ x ∈ l, callF 100 T k 8 [.val x, .val x] = .ok (.val (.bool true)) [.val x, .val x] := fun l h1 h2 x hx =>
      ih x k (by have := depthAll_mem hx; omega) (by omega) (niceAll_mem h2 hx)
    cases d with
    | dict l => cases hn
    | list l =>
      have hn : (decide (l.length ≤ 1000) && niceAll l) = true := hn
      rw [Bool.and_eq_true, decide_eq_true_eq] at hn
      exact is_list hn.1 (items l hd hn.2)
    | tuple l =>
      have hn : (decide (l.length ≤ 1000) && niceAll l) = true := hn
      rw [Bool.and_eq_true, decide_eq_true_eq] at hn
      exact is_tuple hn.1 (items l hd hn.2)
    | none => exact is_flat (.inl rfl)
    | bool b => exact is_flat (.inr (.inl ⟨b, rfl⟩))
    | int i => exact is_flat (.inr (.inr (.inl ⟨i, rfl⟩)))
    | str s => exact is_flat (.inr (.inr (.inr ⟨s, rfl⟩)))
end Law
namespace Law
open PySem Dn
theorem Kd.d_h : ∀ t : Kd, t.d.depth = t.h
  | .a _ => rfl
  | .f l r => by
    show max l.d.depth (max r.d.depth 0) + 1 = max l.h r.h + 1
    rw [l.d_h, r.d_h]
    omega
theorem Kd.d_nice : ∀ t : Kd, nice t.d = true
  | .a _ => rfl
  | .f l r => by
    show (decide (2 ≤ 1000) && (nice l.d && (nice r.d && true))) = true
    rw [l.d_nice, r.d_nice]
    rfl
theorem size_a {s : Str} (h : s ∈ (["a", "b", "c", "d", "abcdefgh"] : List Str)) : s.cps.size ≤ 8 ∧ PyData.strOk s = true := by
  simp only [List.mem_cons, List.not_mem_nil, or_false] at h
  rcases h with rfl | rfl | rfl | rfl | rfl <;> exact ⟨by decide +kernel, by decide +kernel⟩
theorem Kd.d_w : ∀ t : Kd, t.ok → t.d.weight + 2 ≤ 10 * t.n
  | .a s, h => by
    have := (size_a h).1
    show s.cps.size + 2 ≤ 10
    omega
  | .f l r, h => by
    have h1 := l.d_w h.1
    have h2 := r.d_w h.2
    show l.d.weight + 1 + (r.d.weight + 1 + 0) + 2 ≤ 10 * (l.n + r.n)
    omega
theorem Kd.d_lay : ∀ t : Kd, t.ok → t.d.canLay0 = true
  | .a s, h => (size_a h).2
  | .f l r, h => by
    show (l.d.canLay0 && (r.d.canLay0 && true)) = true
    rw [l.d_lay h.1, r.d_lay h.2]
    rfl
theorem Kd.d_ints : ∀ t : Kd, t.d.intsShort 13 = true
  | .a _ => rfl
  | .f l r => by
    show (l.d.intsShort 13 && (r.d.intsShort 13 && true)) = true
    rw [l.d_ints, r.d_ints]
    rfl
theorem Kd.d_show : ∀ t : Kd, t.d.showable = true
  | .a _ => rfl
  | .f l r => by
    show (l.d.showable && (r.d.showable && true)) = true
    rw [l.d_show, r.d_show]
    rfl
theorem rep {t : Kd} (h : t.ok) (hh : t.h ≤ 50) (hn : t.n ≤ 1000) : bltD .repr [t.d] = some (.val (.str t.d.shown)) := by
  have lay : PyData.layable0 t.d = true := by
    unfold PyData.layable0
    have := t.d_w h
    rw [t.d_lay h, t.d_h, decide_eq_true (show t.h ≤ 64 by omega), decide_eq_true (show t.d.weight ≤ 2 ^ 20 by omega)]
    rfl
  have le := PyProof.Rows.shown_le13 lay t.d_ints
  exact if_pos ⟨t.d_show, PyData.hasDict_of_canLay _ (t.d_lay h), by rw [szl_val]; omega, by rw [t.d_h]; omega⟩
/-- what the loop builds -/
def built (b : PyData) (l : List PyData) : PyData := l.foldl (fun b x => .tuple [x, b]) b
theorem built_ps : ∀ t : Kd, built (.str t.e) (t.ps.map Kd.d).reverse = t.d
  | .a s => rfl
  | .f l r => by
    show built (.str r.e) (l.d :: r.ps.map Kd.d).reverse = .tuple [l.d, r.d]
    rw [List.reverse_cons]
    unfold built
    rw [List.foldl_append]
    have := built_ps r
    unfold built at this
    rw [this]
    rfl
theorem for6 {modes : Nat → List Bool} {call : Calls} {x y z : Slot} : ∀ (l : List PyData) (b : PyData) (o : Slot), ∃ o', forE 100 [false] modes call (.n 4) [.set 3 (.tup [.v 4, .v 3])] l [x, y, z, .val b, o] = .ok .nx [x, y, z, .val (built b l), o']
  | [], b, o => ⟨o, rfl⟩
  | d :: l, b, o => by
    obtain ⟨o', e⟩ := for6 (modes := modes) (call := call) (x := x) (y := y) (z := z) l (.tuple [d, b]) (.val d)
    refine ⟨o', ?_⟩
    rw [forE_cons]
    simp -implicitDefEqProofs [e]
    rfl
theorem Kd.ps_mem : ∀ {t x : Kd}, t.ok → x ∈ t.ps → x.ok ∧ x.h ≤ t.h ∧ x.n ≤ t.n
  | .f l r, x, h, m => by
    have m : x ∈ l :: r.ps := m
    have e : (Kd.f l r).h = max l.h r.h + 1 := rfl
    have e2 : (Kd.f l r).n = l.n + r.n := rfl
    rcases List.mem_cons.mp m with rfl | m
    · exact ⟨h.1, by omega, by omega⟩
    · obtain ⟨h1, h2, h3⟩ := Kd.ps_mem (t := r) h.2 m
      exact ⟨h1, by omega, by omega⟩
theorem Kd.e_ok : ∀ {t : Kd}, t.ok → (Kd.a t.e).ok
  | .a _, h => h
  | .f l r, h => Kd.e_ok (t := r) h.2
theorem nice_ps : ∀ l : List Kd, niceAll (l.map Kd.d) = true
  | [] => rfl
  | x :: l => by
    show (nice x.d && niceAll (l.map Kd.d)) = true
    rw [x.d_nice, nice_ps l]
    rfl
theorem depth_ps {m : Nat} : ∀ l : List Kd, (∀ x ∈ l, x.h ≤ m) → PyData.depthAll (l.map Kd.d) ≤ m
  | [], _ => Nat.zero_le _
  | x :: l, h => by
    show max x.d.depth (PyData.depthAll (l.map Kd.d)) ≤ m
    have h1 := h x (List.mem_cons_self ..)
    have h2 := depth_ps l fun y hy => h y (List.mem_cons_of_mem _ hy)
    rw [x.d_h]
    omega
def Kd.two (t : Kd) : PyData := .list [.tuple (t.ps.map Kd.d), .str t.e]
theorem two_refl {t : Kd} {k : Nat} (ho : t.ok) (h : t.h ≤ 15) (hk : 18 ≤ k) : callF 100 T k 8 [.val t.two, .val t.two] = .ok (.val (.bool true)) [.val t.two, .val t.two] := by
  refine is_refl 17 _ _ ?_ (by omega) ?_
  · show max (PyData.depthAll (t.ps.map Kd.d) + 1) (max 0 0) + 1 ≤ 17
    have := depth_ps (m := t.h) t.ps fun x hx => (Kd.ps_mem ho hx).2.1
    omega
  · show (decide (2 ≤ 1000) && ((decide ((t.ps.map Kd.d).length ≤ 1000) && niceAll (t.ps.map Kd.d)) && (true && true))) = true
    have := t.ps_h
    rw [nice_ps, decide_eq_true (show (t.ps.map Kd.d).length ≤ 1000 by rw [List.length_map]; omega)]
    rfl
theorem d_refl {t : Kd} {k : Nat} (h : t.h ≤ 15) (hk : 18 ≤ k) : callF 100 T k 8 [.val t.d, .val t.d] = .ok (.val (.bool true)) [.val t.d, .val t.d] :=
  is_refl 17 _ _ (by rw [t.d_h]; omega) (by omega) t.d_nice
theorem lc6 {k : Nat} {t : Kd} {x y : Slot} (ho : t.ok) (h : t.h ≤ 15) (hn : t.n ≤ 30) (hk : 18 ≤ k) :
    lcE [false] md' (callF 100 T k) [4] (.n 4) [] (.cmp .is (.call 13 [.v 4]) (.c (.bool true))) (t.ps.map Kd.d) [.val t.d, x, y, .un, .un] = .ok (.fr (.list ((t.ps.map Kd.d).map fun _ => .bool true))) [.val t.d, x, y, .un, .un] := by
  have := t.ps_h
  refine lc_map (ρ0 := [.val t.d, x, y, .un, .un]) _ rfl (by simp; omega) rfl rfl fun d hd => ?_
  obtain ⟨p, hp, rfl⟩ := List.mem_map.mp hd
  obtain ⟨h1, h2, h3⟩ := Kd.ps_mem ho hp
  refine ⟨[.val t.d, x, y, .un, .val p.d], by simp, [.val t.d, x, y, .un, .val p.d], ?_, by simp⟩
  simp -implicitDefEqProofs [fd13, is_kind (k := k) h1 (by omega) (by omega) hk]
theorem right {k : Nat} {t : Kd} (ho : t.ok) (h : t.h ≤ 15) (hn : t.n ≤ 30) (hk : 22 ≤ k) : callF 100 T k 6 [.val t.d] = .ok (.val (.bool true)) [.val t.d] := by
  obtain ⟨k, rfl⟩ : ∃ j, k = j + 2 := ⟨k - 2, by omega⟩
  have rp := rep ho (by omega) (by omega)
  have p := parts (k := k + 1) ho h hn (by omega)
  have e := end' (k := k + 1) ho h hn (by omega)
  have pc := pieces (k := k) (t := t) (by omega)
  have ls := last (k := k) (t := t) (by omega)
  have tw := two_refl (t := t) (k := k + 1) ho h (by omega)
  have dr := d_refl (t := t) (k := k + 1) h (by omega)
  have ie := is_kind (k := k + 1) (t := .a t.e) (Kd.e_ok ho) (Nat.zero_le _) (by show 1 ≤ 30; omega) (by omega)
  have bs : boolsOf (List.map ((fun _ => PyData.bool true) ∘ Kd.d) t.ps) = some (t.ps.map fun _ => true) := boolsOf_map (fun _ => true) _
  have lc := lc6 (k := k + 1) (t := t) (x := .val (.str t.d.shown)) (y := .val t.two) ho h hn (by omega)
  obtain ⟨o', fr⟩ := for6 (modes := md') (call := callF 100 T (k + 1)) (x := .val t.d) (y := .val (.str t.d.shown)) (z := .val t.two) (t.ps.map Kd.d).reverse (.str t.e) .un
  rw [built_ps] at fr
  have ie : callF 100 T (k + 1) 13 [.val (.str t.e)] = .ok (.val (.bool true)) [.val (.str t.e)] := ie
  unfold Kd.two at tw lc fr
  rw [callF_eq T_6 rfl]
  simp -implicitDefEqProofs [fd6, b6, fd9, fd10, fd11, fd12, fd8, fd13, rp, p, e, pc, ls, tw, lc, bs, ie, fr, dr]
  cases t with
  | a s =>
    have q : eqD (.list [.tuple [], .str s]) (.list [.tuple [], .str s]) = some (PyData.eqv (.list [.tuple [], .str s]) (.list [.tuple [], .str s])) := by
      have l : PyData.canLay0 (.list [.tuple [], .str s]) = true := by
        show (true && (PyData.strOk s && true)) = true
        rw [(size_a ho).2]
        rfl
      exact eqD_of rfl l l (by show min (max (0 + 1) (max 0 0) + 1) _ ≤ 64; omega)
    have q2 : PyData.eqv (.list [.tuple [], .str s]) (.list [.tuple [], .str s]) = true := by
      show (true && ((s == s) && true)) = true
      rw [beq_self_eq_true]
      rfl
    rw [q2] at q
    simp -implicitDefEqProofs [Kd.d, Kd.ps, Kd.e, isTy, q]
  | f l r =>
    have h' : max l.h r.h + 1 ≤ 15 := h
    have hn' : l.n + r.n ≤ 30 := hn
    have p := parts (t := r) (k := k + 1) ho.2 (by omega) (by omega) (by omega)
    have e := end' (t := r) (k := k + 1) ho.2 (by omega) (by omega) (by omega)
    have := r.ps_h
    have z : r.ps.length + 1 ≤ 16777216 := by omega
    simp -implicitDefEqProofs [Kd.ps, Kd.e] at tw
    simp -implicitDefEqProofs [Kd.d, Kd.ps, Kd.e, isTy, fd9, fd10, fd8, p, e, tw, z, Nat.add_comm 1]
end Law
namespace Law
open PySem Dn
def Hd (h : PyData) : Prop := ∃ cells i a b c, 0 ≤ i ∧ h = hnd cells i a b c
theorem known : callF 100 T 59 2 [] = .ok (.val (.bool true)) [] := by kernel_rfl
theorem draw' {k : Nat} {h : PyData} {lim : Int} (hh : Hd h) (h0 : 0 < lim) (h1 : lim < 1073741824) : ∃ (r : Nat) (h' : PyData), (r : Int) < lim ∧ Hd h' ∧ callF 100 T (k + 1) 4 [.own h, .val (.int lim)] = .ok (.val (.int r)) [.own h', .val (.int lim)] := by
  obtain ⟨cells, i, a, b, c, hi, rfl⟩ := hh
  obtain ⟨r, i', a', b', c', r0, r1, hi', e⟩ := draw (k := k) (cells := cells) (a := a) (b := b) (c := c) hi h0 h1
  obtain ⟨r, rfl⟩ : ∃ n : Nat, r = (n : Int) := ⟨r.toNat, by omega⟩
  exact ⟨r, _, r1, ⟨cells, i', a', b', c', hi', rfl⟩, e⟩
theorem some' {k : Nat} {h : PyData} {l : List PyData} (hh : Hd h) (h0 : 0 < l.length) (h1 : l.length ≤ 1000) : ∃ x h', x ∈ l ∧ Hd h' ∧ callF 100 T (k + 2) 5 [.own h, .val (.list l)] = .ok (.val x) [.own h', .val (.list l)] := by
  obtain ⟨r, h', hr, hh', e⟩ := draw' (k := k) (lim := l.length) hh (by omega) (by omega)
  have hr : r < l.length := by omega
  refine ⟨l[r], h', List.getElem_mem hr, hh', ?_⟩
  rw [callF_eq T_5 rfl]
  simp -implicitDefEqProofs [fd5, b5, fd4, e, hr]
theorem atom' {k : Nat} {h : PyData} (hh : Hd h) : ∃ s h', s ∈ (["a", "b", "c", "d", "abcdefgh"] : List Str) ∧ Hd h' ∧ callF 100 T (k + 3) 7 [.own h] = .ok (.val (.str s)) [.own h'] := by
  obtain ⟨x, h', hx, hh', e⟩ := some' (k := k) (l := [.str "a", .str "a", .str "b", .str "b", .str "c", .str "d", .str "abcdefgh"]) hh (by simp) (by simp)
  obtain ⟨s, rfl, hs⟩ : ∃ s, x = .str s ∧ s ∈ (["a", "b", "c", "d", "abcdefgh"] : List Str) := by
    simp only [List.mem_cons, List.not_mem_nil, or_false] at hx
    rcases hx with rfl | rfl | rfl | rfl | rfl | rfl | rfl <;> exact ⟨_, rfl, by simp⟩
  refine ⟨s, h', hs, hh', ?_⟩
  rw [callF_eq T_7 rfl]
  simp -implicitDefEqProofs [fd7, b7, fd5, e]
theorem kind' : ∀ (L : Nat), 1 ≤ L → L ≤ 20 → ∀ (k : Nat), L + 3 ≤ k → ∀ h, Hd h → ∃ (t : Kd) (h' : PyData), t.ok ∧ t.n = L ∧ Hd h' ∧ callF 100 T k 3 [.own h, .val (.int L)] = .ok (.val t.d) [.own h', .val (.int L)] := by
  intro L
  induction L using Nat.strongRecOn with
  | ind L ih =>
    intro h1 h2 k hk h hh
    by_cases c : L = 1
    · obtain ⟨k, rfl⟩ : ∃ j, k = j + 4 := ⟨k - 4, by omega⟩
      obtain ⟨s, h', hs, hh', e⟩ := atom' (k := k) hh
      refine ⟨.a s, h', hs, c.symm, hh', ?_⟩
      subst c
      rw [callF_eq T_3 rfl]
      simp -implicitDefEqProofs [fd3, b3, fd7, e, Kd.d]
    · obtain ⟨k, rfl⟩ : ∃ j, k = j + 2 := ⟨k - 2, by omega⟩
      obtain ⟨r, h1', hr, hh1, e1⟩ := draw' (k := k) (lim := (L : Int) - 1) hh (by omega) (by omega)
      obtain ⟨r2, h2', hr2, hh2, e2⟩ := draw' (k := k) (lim := 2) hh1 (by omega) (by omega)
      have go : ∀ f : Nat, 1 ≤ f → f < L → ∃ (l r : Kd) (h4 : PyData), l.ok ∧ r.ok ∧ l.n + r.n = L ∧ Hd h4 ∧ ∃ h3, callF 100 T (k + 1) 3 [.own h2', .val (.int f)] = .ok (.val l.d) [.own h3, .val (.int f)] ∧ callF 100 T (k + 1) 3 [.own h3, .val (.int ((L : Int) - f))] = .ok (.val r.d) [.own h4, .val (.int ((L : Int) - f))] := by
        intro f f1 f2
        obtain ⟨l, h3, lo, ln, hh3, e3⟩ := ih f f2 f1 (by omega) (k + 1) (by omega) h2' hh2
        obtain ⟨r, h4, ro, rn, hh4, e4⟩ := ih (L - f) (by omega) (by omega) (by omega) (k + 1) (by omega) h3 hh3
        have z : ((L - f : Nat) : Int) = (L : Int) - f := by omega
        rw [z] at e4
        exact ⟨l, r, h4, lo, ro, by omega, hh4, h3, e3, e4⟩
      have n2 : ¬ (L : Int) < 2 := by omega
      by_cases c2 : r2 = 0
      · obtain ⟨l, r, h4, lo, ro, hn, hh4, h3, e3, e4⟩ := go 1 (by omega) (by omega)
        refine ⟨.f l r, h4, ⟨lo, ro⟩, hn, hh4, ?_⟩
        subst c2
        simp at e3 e4 e2
        rw [callF_eq T_3 rfl]
        simp -implicitDefEqProofs [fd3, b3, fd4, e1, e2, e3, e4, n2, Kd.d]
      · obtain ⟨l, r', h4, lo, ro, hn, hh4, h3, e3, e4⟩ := go (1 + r) (by omega) (by omega)
        refine ⟨.f l r', h4, ⟨lo, ro⟩, hn, hh4, ?_⟩
        have z : ((1 + r : Nat) : Int) = 1 + (r : Int) := by omega
        rw [z] at e3 e4
        rw [callF_eq T_3 rfl]
        simp -implicitDefEqProofs [fd3, b3, fd4, e1, e2, e3, e4, n2, c2, Kd.d]
def absD : PyData → PyData
  | .int i => .int (if i < 0 then -i else i)
  | d => d
theorem cut63 {l : List PyData} (h : l.length ≤ 63) : cutL l none (some 63) = l := by
  have e : HT.sIx l.length l.length (some 63) = l.length := by
    show (if (63 : Int) < 0 then ((63 : Int) + (l.length : Int)).toNat else min (63 : Int).toNat l.length) = l.length
    rw [if_neg (by decide)]
    show min 63 l.length = l.length
    omega
  unfold cutL
  rw [e]
  show (l.drop 0).take (l.length - 0) = l
  simp
theorem hand' {k : Nat} {ns : List Int} (h : ns.length ≤ 63) : ∃ d, Hd d ∧ callF 100 T (k + 1) 1 [.val (.list (ns.map .int))] = .ok (.fr d) [.val (.list (ns.map .int))] := by
  have c := cut63 (l := ns.map PyData.int) (by simpa using h)
  have s : slD (.list (ns.map PyData.int)) none (some 63) = some (.fr (.list (ns.map .int))) := by
    show some (EV.fr (.list (cutL (ns.map PyData.int) none (some 63)))) = _
    rw [c]
  have l : lcE [false] md' (callF 100 T k) [2] (.n 2) [] (.blt .abs [.blt .int [.v 2]]) (ns.map .int) [.val (.list (ns.map .int)), .un, .un] = .ok (.fr (.list ((ns.map .int).map absD))) [.val (.list (ns.map .int)), .un, .un] := by
    refine lc_map (ρ0 := [.val (.list (ns.map .int)), .un, .un]) _ rfl (by simp; omega) rfl rfl fun d hd => ?_
    obtain ⟨n, hn, rfl⟩ := List.mem_map.mp hd
    exact ⟨[.val (.list (ns.map .int)), .un, .val (.int n)], by simp, [.val (.list (ns.map .int)), .un, .val (.int n)], by simp -implicitDefEqProofs [absD], by simp⟩
  have m : (ns.map PyData.int).map absD = (ns.map fun i => if i < 0 then -i else i).map PyData.int := by
    rw [List.map_map, List.map_map]
    rfl
  rw [m] at l
  refine ⟨_, ⟨ns.map fun i => if i < 0 then -i else i, 0, 0, 433 + 42 * (ns.length : Int), 0, Int.le_refl _, rfl⟩, ?_⟩
  rw [callF_eq T_1 rfl]
  simp -implicitDefEqProofs [fd1, b1, s, l, bin_mulL, hnd]
def mk (ts : List Kd) (s : Str) : Kd := ts.foldr .f (.a s)
theorem mk_ps {s : Str} : ∀ ts : List Kd, (mk ts s).ps = ts
  | [] => rfl
  | t :: ts => by
    show t :: (mk ts s).ps = _
    rw [mk_ps ts]
theorem mk_e {s : Str} : ∀ ts : List Kd, (mk ts s).e = s
  | [] => rfl
  | t :: ts => mk_e ts
theorem mk_ok {s : Str} (h : (Kd.a s).ok) : ∀ ts : List Kd, (∀ t ∈ ts, t.ok ∧ t.n ≤ 3) → (mk ts s).ok ∧ (mk ts s).n ≤ 3 * ts.length + 1
  | [], _ => ⟨h, Nat.le_refl _⟩
  | t :: ts, g => by
    obtain ⟨h1, h2⟩ := mk_ok h ts fun x hx => g x (List.mem_cons_of_mem _ hx)
    obtain ⟨h3, h4⟩ := g t (List.mem_cons_self ..)
    refine ⟨⟨h3, h1⟩, ?_⟩
    show t.n + (mk ts s).n ≤ 3 * (ts.length + 1) + 1
    omega
theorem for7 {modes : Nat → List Bool} {call : Calls} {x0 x1 x2 x3 x4 x6 x8 : Slot} : ∀ (l : List PyData) (b : PyData) (o : Slot), ∃ o', forE 100 [false] modes call (.n 7) [.set 5 (.tup [.v 7, .v 5])] l [x0, x1, x2, x3, x4, .val b, x6, o, x8] = .ok .nx [x0, x1, x2, x3, x4, .val (built b l), x6, o', x8]
  | [], b, o => ⟨o, rfl⟩
  | d :: l, b, o => by
    obtain ⟨o', e⟩ := for7 (modes := modes) (call := call) (x0 := x0) (x1 := x1) (x2 := x2) (x3 := x3) (x4 := x4) (x6 := x6) (x8 := x8) l (.tuple [d, b]) (.val d)
    refine ⟨o', ?_⟩
    rw [forE_cons]
    simp -implicitDefEqProofs [e]
    rfl
def RowI (x0 x2 x3 x4 x5 x6 x7 : Slot) (acc : List PyData) (ρ : Dn.Env) : Prop := ∃ (h : PyData) (ts : List Kd), Hd h ∧ acc = ts.map Kd.d ∧ (∀ t ∈ ts, t.ok ∧ t.n ≤ 3) ∧ ρ = [x0, .own h, x2, x3, x4, x5, x6, x7, .un]
theorem row {k n : Nat} {h : PyData} {x0 x2 x3 x4 x5 x6 x7 x8 : Slot} (hh : Hd h) (hn : n ≤ 1000) (hk : 20 ≤ k) : ∃ (h' : PyData) (ts : List Kd), Hd h' ∧ ts.length = n ∧ (∀ t ∈ ts, t.ok ∧ t.n ≤ 3) ∧
    lcE [false] md' (callF 100 T k) [8] (.n 8) [] (.call 3 [.v 1, .bin .add (.c (.int 1)) (.call 4 [.v 1, .c (.int 3)])]) ((List.range n).map fun (j : Nat) => PyData.int (j : Int)) [x0, .own h, x2, x3, x4, x5, x6, x7, x8] = .ok (.fr (.list (ts.map Kd.d))) [x0, .own h', x2, x3, x4, x5, x6, x7, x8] := by
  obtain ⟨l, ρ', e, ⟨h', ts, hh', rfl, ht, rfl⟩, hl⟩ := lc_run (md := [false]) (modes := md') (call := callF 100 T k) (ws := [8]) (tg := .n 8) (e := .call 3 [.v 1, .bin .add (.c (.int 1)) (.call 4 [.v 1, .c (.int 3)])])
    (ds := (List.range n).map fun (j : Nat) => PyData.int (j : Int)) (ρ := [x0, .own h, x2, x3, x4, x5, x6, x7, x8]) (RowI x0 x2 x3 x4 x5 x6 x7) rfl (by simp; omega) ⟨h, [], hh, rfl, by simp, rfl⟩ fun d hd acc ρ i => by
      obtain ⟨h1, ts, hh1, rfl, ht, rfl⟩ := i
      obtain ⟨k, rfl⟩ : ∃ j, k = j + 1 := ⟨k - 1, by omega⟩
      obtain ⟨r, h2, hr, hh2, e2⟩ := draw' (k := k) (lim := 3) hh1 (by omega) (by omega)
      obtain ⟨t, h3, to, tn, hh3, e3⟩ := kind' (1 + r) (by omega) (by omega) (k + 1) (by omega) h2 hh2
      have z : ((1 + r : Nat) : Int) = 1 + (r : Int) := by omega
      rw [z] at e3
      refine ⟨[x0, .own h1, x2, x3, x4, x5, x6, x7, .val d], by simp, t.d, [x0, .own h3, x2, x3, x4, x5, x6, x7, .val d], by simp -implicitDefEqProofs [md', fd3, fd4, e2, e3], h3, ts ++ [t], hh3, by simp, fun x hx => ?_, by simp⟩
      rcases List.mem_append.mp hx with q | q
      · exact ht x q
      · rw [List.mem_singleton.mp q]
        exact ⟨to, by omega⟩
  refine ⟨h', ts, hh', by simpa using hl, ht, ?_⟩
  rw [e]
  rfl
def LawI (script : PyData) (ρ : Dn.Env) : Prop := ∃ (h : PyData) (x2 x3 x4 x5 x6 x7 x8 : Slot), Hd h ∧ ρ = [.val script, .own h, x2, x3, x4, x5, x6, x7, x8]
theorem turn' {script : PyData} {d : PyData} {ρ : Dn.Env} (hρ : LawI script ρ) : ∃ ρ1, assignT [false] (.n 2) d ρ = some ρ1 ∧ ∃ ρ2, execSs 100 [false] md' (callF 100 T 59) [.set 3 (.call 3 [.v 1, .bin .add (.c (.int 1)) (.call 4 [.v 1, .call 5 [.v 1, .lst [.c (.int 4), .c (.int 10), .c (.int 14)]]])]),
    .ite (.not (.call 6 [.v 3])) [.ret (.c (.bool false))] [],
    .par 4 5 (.lc [8] (.n 8) (.range1 (.call 4 [.v 1, .c (.int 6)])) [] (.call 3 [.v 1, .bin .add (.c (.int 1)) (.call 4 [.v 1, .c (.int 3)])])) (.call 7 [.v 1]),
    .set 6 (.v 5),
    .for (.n 7) (.ex (.rev (.v 4))) [.set 5 (.tup [.v 7, .v 5])],
    .ite (.or (.not (.call 8 [.lst [.call 9 [.v 5], .call 10 [.v 5]], .lst [.blt .tuple [.v 4], .v 6]])) (.not (.call 6 [.v 5]))) [.ret (.c (.bool false))] []] ρ1 = .ok .nx ρ2 ∧ LawI script ρ2 := by
  obtain ⟨h, x2, x3, x4, x5, x6, x7, x8, hh, rfl⟩ := hρ
  obtain ⟨x, h1, hx, hh1, e1⟩ := some' (k := 57) (l := [.int 4, .int 10, .int 14]) hh (by simp) (by simp)
  obtain ⟨m, rfl, m1, m2⟩ : ∃ m : Nat, x = .int m ∧ 1 ≤ m ∧ m ≤ 14 := by
    simp only [List.mem_cons, List.not_mem_nil, or_false] at hx
    rcases hx with rfl | rfl | rfl
    · exact ⟨4, rfl, by omega, by omega⟩
    · exact ⟨10, rfl, by omega, by omega⟩
    · exact ⟨14, rfl, by omega, by omega⟩
  obtain ⟨r, h2, hr, hh2, e2⟩ := draw' (k := 58) (lim := m) hh1 (by omega) (by omega)
  obtain ⟨t, h3, to, tn, hh3, e3⟩ := kind' (1 + r) (by omega) (by omega) 59 (by omega) h2 hh2
  have z : ((1 + r : Nat) : Int) = 1 + (r : Int) := by omega
  rw [z] at e3
  have th := t.h_n
  have rt := right (k := 59) to (by omega) (by omega) (by omega)
  obtain ⟨r6, h4, hr6, hh4, e4⟩ := draw' (k := 58) (lim := 6) hh3 (by omega) (by omega)
  obtain ⟨h5, ts, hh5, tl, ht, e5⟩ := row (k := 59) (n := r6) (h := h4) (x0 := .val script) (x2 := .val d) (x3 := .val t.d) (x4 := x4) (x5 := x5) (x6 := x6) (x7 := x7) (x8 := x8) hh4 (by omega) (by omega)
  obtain ⟨s, h6, hs, hh6, e6⟩ := atom' (k := 56) hh5
  obtain ⟨o1, o2⟩ := mk_ok (s := s) hs ts ht
  have oh := (mk ts s).h_n
  have rt2 := right (k := 59) o1 (by omega) (by omega) (by omega)
  have p := parts (k := 59) o1 (by omega) (by omega) (by omega)
  have e := end' (k := 59) o1 (by omega) (by omega) (by omega)
  have tw := two_refl (k := 59) o1 (by omega) (by omega)
  have b := built_ps (mk ts s)
  obtain ⟨o', fr⟩ := for7 (modes := md') (call := callF 100 T 59) (x0 := .val script) (x1 := .own h6) (x2 := .val d) (x3 := .val t.d) (x4 := .own (.list (ts.map Kd.d))) (x6 := .val (.str s)) (x8 := x8) (ts.map Kd.d).reverse (.str s) x7
  unfold Kd.two at tw
  rw [mk_ps, mk_e] at b tw
  rw [mk_ps] at p
  rw [mk_e] at e
  rw [b] at fr
  have rg := range_nat (n := r6) (by omega)
  refine ⟨[.val script, .own h, .val d, x3, x4, x5, x6, x7, x8], by simp, [.val script, .own h6, .val d, .val t.d, .own (.list (ts.map Kd.d)), .val (mk ts s).d, .val (.str s), o', x8], ?_, h6, _, _, _, _, _, _, _, hh6, rfl⟩
  replace e1 : callF 100 T 59 5 _ = _ := e1
  replace e2 : callF 100 T 59 4 _ = _ := e2
  replace e4 : callF 100 T 59 4 _ = _ := e4
  replace e6 : callF 100 T 59 7 _ = _ := e6
  simp -implicitDefEqProofs [md', fd3, fd4, fd5, fd6, fd7, fd8, fd9, fd10, e1, e2, e3, rt, e4, rg, e5, e6, fr, p, e, tw, rt2]
theorem plain : ∀ ns : List Int, ns.length ≤ 63 → ∃ out, Dn.callF 100 T 60 0 [.val (.list (ns.map .int))] = .ok (.val (.bool true)) out := by
  intro ns hl
  obtain ⟨h, hh, e⟩ := hand' (k := 58) hl
  obtain ⟨ρ', f, h', x2, x3, x4, x5, x6, x7, x8, hh', rfl⟩ := for_run (W := 100) (md := [false]) (modes := md') (call := callF 100 T 59) (tg := .n 2) (ss := [.set 3 (.call 3 [.v 1, .bin .add (.c (.int 1)) (.call 4 [.v 1, .call 5 [.v 1, .lst [.c (.int 4), .c (.int 10), .c (.int 14)]]])]),
    .ite (.not (.call 6 [.v 3])) [.ret (.c (.bool false))] [],
    .par 4 5 (.lc [8] (.n 8) (.range1 (.call 4 [.v 1, .c (.int 6)])) [] (.call 3 [.v 1, .bin .add (.c (.int 1)) (.call 4 [.v 1, .c (.int 3)])])) (.call 7 [.v 1]),
    .set 6 (.v 5),
    .for (.n 7) (.ex (.rev (.v 4))) [.set 5 (.tup [.v 7, .v 5])],
    .ite (.or (.not (.call 8 [.lst [.call 9 [.v 5], .call 10 [.v 5]], .lst [.blt .tuple [.v 4], .v 6]])) (.not (.call 6 [.v 5]))) [.ret (.c (.bool false))] []])
    (fun _ ρ => LawI (.list (ns.map .int)) ρ) (n := 0) (ds := [.int 0, .int 1, .int 2, .int 3, .int 4]) (ρ := [.val (.list (ns.map .int)), .own h, .un, .un, .un, .un, .un, .un, .un]) ⟨h, _, _, _, _, _, _, _, hh, rfl⟩ fun j d ρ _ i => turn' i
  have rg : rangeD 0 5 = some [.int 0, .int 1, .int 2, .int 3, .int 4] := by kernel_rfl
  refine ⟨[.val (.list (ns.map .int))], ?_⟩
  replace e : callF 100 T 59 1 _ = _ := e
  rw [callF_eq T_0 rfl]
  simp -implicitDefEqProofs [fd0, b0, fd1, e, fd2, known, rg, f]
end Law
open PySem PySem.W PyProof.Rows
set_option maxRecDepth 100000 in
set_option maxHeartbeats 0 in
theorem PySem.Challenge.cw_alloftype_k02_whole_parts_and_ends_holds : PySem.Challenge.rw_alloftype_k02_whole_parts_and_ends.Holds := by
  w_on; o_law; k_head; (case hw => w_witness2)
  k_fill
  refine Dn.law_walk (n := 63) (k := 60) (x := "script") (md := Law.fd0.md) (f := Dn.callF 100 Law.T 60 0) rfl (by decide) rfl ⟨rfl, by decide, by decide⟩ (fun w h Y => PySem.W.kIn_of Y) Law.plain ?F
  case F =>
    intro w mg fa h KX G hmg
    refine' Law.all_mk KX G hmg ?a__law_hand ?a__law_is_known_right ?a__law_kind ?a__law_draw ?a__law_some ?a__law_is_right ?a__law_atom ?a__law_is ?a_parts ?a_end ?a__law_pieces ?a__law_last ?a_is_kind ?a_check_kind ?a_parts_of ?a_end_of ?a_atoms_in ?a_is_atom ?a_is_name ?a_is_tuple ?a_law ?l0 ?c0 ?k0 ?l1 ?c1 ?k1 ?l2 ?c2 ?k2 ?l3 ?c3 ?k3 ?l4 ?c4 ?k4 ?l5 ?c5 ?k5 ?l6 ?c6 ?k6 ?l7 ?c7 ?k7 ?l8 ?c8 ?k8 ?l9 ?c9 ?k9 ?l10 ?c10 ?k10 ?l11 ?c11 ?k11 ?l12 ?c12 ?k12 ?l13 ?c13 ?k13 ?l14 ?c14 ?k14 ?l15 ?c15 ?k15 ?l16 ?c16 ?k16 ?l17 ?c17 ?k17 ?l18 ?c18 ?k18 ?l19 ?c19 ?k19 ?l20 ?c20 ?k20 ?z_abs ?z_all ?z_bool ?z_int ?z_isinstance ?z_len ?z_list ?z_range ?z_repr ?z_str ?z_tuple ?v_MOST_NESTED ?v_MOST_ATOMS ?v_MOST_LETTERS ?v_LETTERS
    (case a__law_hand => k_is)
    (case a__law_is_known_right => k_is)
    (case a__law_kind => k_is)
    (case a__law_draw => k_is)
    (case a__law_some => k_is)
    (case a__law_is_right => k_is)
    (case a__law_atom => k_is)
    (case a__law_is => k_is)
    (case a_parts => k_is)
    (case a_end => k_is)
    (case a__law_pieces => k_is)
    (case a__law_last => k_is)
    (case a_is_kind => k_is)
    (case a_check_kind => k_is)
    (case a_parts_of => k_is)
    (case a_end_of => k_is)
    (case a_atoms_in => k_is)
    (case a_is_atom => k_is)
    (case a_is_name => k_is)
    (case a_is_tuple => k_is)
    (case a_law => k_is)
    (case l0 => k_is)
    (case c0 => k_is)
    (case k0 => k_is)
    (case l1 => k_is)
    (case c1 => k_is)
    (case k1 => k_is)
    (case l2 => k_is)
    (case c2 => k_is)
    (case k2 => k_is)
    (case l3 => k_is)
    (case c3 => k_is)
    (case k3 => k_is)
    (case l4 => k_is)
    (case c4 => k_is)
    (case k4 => k_is)
    (case l5 => k_is)
    (case c5 => k_is)
    (case k5 => k_is)
    (case l6 => k_is)
    (case c6 => k_is)
    (case k6 => k_is)
    (case l7 => k_is)
    (case c7 => k_is)
    (case k7 => k_is)
    (case l8 => k_is)
    (case c8 => k_is)
    (case k8 => k_is)
    (case l9 => k_is)
    (case c9 => k_is)
    (case k9 => k_is)
    (case l10 => k_is)
    (case c10 => k_is)
    (case k10 => k_is)
    (case l11 => k_is)
    (case c11 => k_is)
    (case k11 => k_is)
    (case l12 => k_is)
    (case c12 => k_is)
    (case k12 => k_is)
    (case l13 => k_is)
    (case c13 => k_is)
    (case k13 => k_is)
    (case l14 => k_is)
    (case c14 => k_is)
    (case k14 => k_is)
    (case l15 => k_is)
    (case c15 => k_is)
    (case k15 => k_is)
    (case l16 => k_is)
    (case c16 => k_is)
    (case k16 => k_is)
    (case l17 => k_is)
    (case c17 => k_is)
    (case k17 => k_is)
    (case l18 => k_is)
    (case c18 => k_is)
    (case k18 => k_is)
    (case l19 => k_is)
    (case c19 => k_is)
    (case k19 => k_is)
    (case l20 => k_is)
    (case c20 => k_is)
    (case k20 => k_is)
    (case z_abs => k_is)
    (case z_all => k_is)
    (case z_bool => k_is)
    (case z_int => k_is)
    (case z_isinstance => k_is)
    (case z_len => k_is)
    (case z_list => k_is)
    (case z_range => k_is)
    (case z_repr => k_is)
    (case z_str => k_is)
    (case z_tuple => k_is)
    (case v_MOST_NESTED => k_is)
    (case v_MOST_ATOMS => k_is)
    (case v_MOST_LETTERS => k_is)
    (case v_LETTERS => k_is)
