import PyProof.Rows.All
import HandS.ForMost
import HandS.IsInst
import HandS.Wide
import HandS.StrMore
import HandS.Exc
import HandS.TupAny
import HandS.Deep
import HandS.Flow
import HandS.Style
import HandS.TupLe
import HandS.FStr
import HandS.Walk
import KE.GoesEnumKw
import KE.KDictZip
import HandS.Zip
import HandS.ExcOwn
import HandS.Defaults
import KE.KUnpackStar
import HandS.TryOnly
import HandS.More
import HandS.ExcValue
import KE.KExcIs
import PyProof.ExcBaseAll.LookupError
import PyProof.ExcBaseAll.RuntimeError
import HandS.ExcInit
import KE.KExcInit
import HandS.ExcField
import HandS.Lambda
import HandS.Ends
import HandS.EndBits
import HandS.Codes
import HandS.HeadEnd
import HandS.HeadHook1
import HandS.HeadHook2
import KE.KStateDown
import HandS.Words
import HandS.WordsExc
import HandS.Head0
import HandS.Head1
import HandS.Head2
import PySem.Challenge.RW_panelworks_k05_refusals_by_hand
import HandS.Text
set_option Elab.async false
set_option linter.all false
set_option maxRecDepth 100000
/-! PsCore: a small Python over trees. Values, syntax, its run. -/
namespace Ps
open PySem

inductive Val where
  | non | bl (b : Bool) | int (i : Int) | str (x : Str)
  | tup (xs : List Val) | lst (xs : List Val) | fro (xs : List Val) | emp
  | ref (i : Nat) | fn (x : Str) | ty (n : String) | exc (c : Str) (ks : List Str) (vs : List Val)

mutual
def Val.beq : Val → Val → Bool
  | .non, .non => true
  | .bl a, .bl b => a == b
  | .int a, .int b => a == b
  | .str a, .str b => a == b
  | .tup a, .tup b => Val.beqs a b
  | .lst a, .lst b => Val.beqs a b
  | .fro a, .fro b => Val.beqs a b
  | .emp, .emp => true
  | .ref a, .ref b => a == b
  | .fn a, .fn b => a == b
  | .ty a, .ty b => a == b
  | .exc a b c, .exc a' b' c' => a == a' && b == b' && Val.beqs c c'
  | _, _ => false
def Val.beqs : List Val → List Val → Bool
  | [], [] => true
  | a :: as, b :: bs => Val.beq a b && Val.beqs as bs
  | _, _ => false
end
mutual
theorem Val.beq_eq : ∀ {a b : Val}, Val.beq a b = true → a = b
  | .non, b, h => by cases b <;> simp [Val.beq] at h ⊢
  | .bl x, b, h => by cases b <;> simp [Val.beq] at h ⊢; exact h
  | .int x, b, h => by cases b <;> simp [Val.beq] at h ⊢; exact h
  | .str x, b, h => by cases b <;> simp [Val.beq] at h ⊢; exact h
  | .tup x, b, h => by cases b <;> simp [Val.beq] at h ⊢; exact Val.beqs_eq h
  | .lst x, b, h => by cases b <;> simp [Val.beq] at h ⊢; exact Val.beqs_eq h
  | .fro x, b, h => by cases b <;> simp [Val.beq] at h ⊢; exact Val.beqs_eq h
  | .emp, b, h => by cases b <;> simp [Val.beq] at h ⊢
  | .ref x, b, h => by cases b <;> simp [Val.beq] at h ⊢; exact h
  | .fn x, b, h => by cases b <;> simp [Val.beq] at h ⊢; exact h
  | .ty x, b, h => by cases b <;> simp [Val.beq] at h ⊢; exact h
  | .exc x y z, b, h => by
    cases b <;> simp [Val.beq] at h ⊢
    exact ⟨h.1.1, h.1.2, Val.beqs_eq h.2⟩
theorem Val.beqs_eq : ∀ {a b : List Val}, Val.beqs a b = true → a = b
  | [], b, h => by cases b <;> simp [Val.beqs] at h ⊢
  | x :: xs, b, h => by
    cases b <;> simp [Val.beqs] at h ⊢
    exact ⟨Val.beq_eq h.1, Val.beqs_eq h.2⟩
end
mutual
theorem Val.beq_refl : ∀ a : Val, Val.beq a a = true
  | .non => rfl
  | .bl x => by simp [Val.beq]
  | .int x => by simp [Val.beq]
  | .str x => by simp [Val.beq]
  | .tup x => by simpa [Val.beq] using Val.beqs_refl x
  | .lst x => by simpa [Val.beq] using Val.beqs_refl x
  | .fro x => by simpa [Val.beq] using Val.beqs_refl x
  | .emp => rfl
  | .ref x => by simp [Val.beq]
  | .fn x => by simp [Val.beq]
  | .ty x => by simp [Val.beq]
  | .exc x y z => by simpa [Val.beq] using Val.beqs_refl z
theorem Val.beqs_refl : ∀ a : List Val, Val.beqs a a = true
  | [] => rfl
  | x :: xs => by simp [Val.beqs, Val.beq_refl x, Val.beqs_refl xs]
end
instance : DecidableEq Val := fun a b => if h : Val.beq a b = true then isTrue (Val.beq_eq h) else isFalse fun e => h (e ▸ Val.beq_refl a)

inductive Cell where
  | dict (kvs : List (L2.Key × Val)) | list (xs : List Val) | dead

abbrev Cells := List Cell
abbrev Slots := List (Option Val)

inductive R (α : Type) where
  | ok (a : α) (cs : Cells) | ex (x : Val) (cs : Cells) | stuck

def R.bind {α β : Type} : R α → (α → Cells → R β) → R β
  | .ok a cs, f => f a cs
  | .ex x cs, _ => .ex x cs
  | .stuck, _ => .stuck
@[simp] theorem R.bind_ok {α β : Type} (a : α) (cs : Cells) (f : α → Cells → R β) : (R.ok a cs).bind f = f a cs := rfl
@[simp] theorem R.bind_ex {α β : Type} (x : Val) (cs : Cells) (f : α → Cells → R β) : (R.ex x cs).bind f = .ex x cs := rfl
@[simp] theorem R.bind_stuck {α β : Type} (f : α → Cells → R β) : (R.stuck : R α).bind f = .stuck := rfl

/-- what becomes of no value -/
def R.of {α : Type} (o : Option α) (cs : Cells) : R α := match o with
  | some a => .ok a cs
  | none => .stuck
@[simp] theorem R.of_some {α : Type} (a : α) (cs : Cells) : R.of (some a) cs = .ok a cs := rfl
@[simp] theorem R.of_none {α : Type} (cs : Cells) : R.of (none : Option α) cs = .stuck := rfl

inductive Bop where
  | add | sub | mul | mod | fdiv | pow
  deriving DecidableEq
inductive Cop where
  | eq | ne | lt | le | gt | ge | is_ | isNot | isIn | notIn
  deriving DecidableEq
inductive Prim where
  | len | abs | max | min | int | str | repr | sum | all | any | isInst | tuple | list
  deriving DecidableEq
/-- methods of texts -/
inductive Sm where
  | split | join | startswith | upper | index
  deriving DecidableEq
/-- methods of lists that are ours -/
inductive Lm where
  | append | insert | extend | pop
  deriving DecidableEq
inductive ItK where
  | val | rng1 | rng2 | enum | zip | zips
  deriving DecidableEq
inductive Tg where
  | nm (i : Nat) | tp (ts : List Tg)

inductive E where
  | const (v : Val)
  | var (i : Nat)
  | bin (op : Bop) (a b : E)
  | neg (a : E)
  | cmp (op : Cop) (a b : E)
  | chain (op op' : Cop) (a b c : E)
  | and_ (a b : E) | or_ (a b : E) | not_ (a : E)
  | ite (c a b : E)
  | tup (es : List E) | lst (es : List E)
  | ix (a b : E)
  | slice (a lo hi : E) (p q : Bool)
  | call (f : Str) (es : List E) (sh : List (Nat ⊕ Val))
  | prim (p : Prim) (es : List E)
  | smeth (p : Sm) (o : E) (es : List E)
  | lcomp (elt : E) (tg : Tg) (k : ItK) (its : List E) (ifs : List E) (own : List Nat)
  | dict (ks : List Str) (es : List E)
  | fstr (es : List E)
  | fmt (a : E)
  | emp
  | bad
  | own (a : E)
  | lmeth (p : Lm) (o : E) (es : List E)
  | isExc (a : E) (tab : List (Str × Bool))
  | fld (a : E) (f : Str) (tab : List Str)
  | zipl (st : Bool) (es : List E)
  | mkx (c : Str) (ks : List Str) (es : List E) (sh : List (Nat ⊕ Val))

inductive S where
  | ret (e : E)
  | asg (t : Tg) (e : E)
  | par (is : List Nat) (es : List E)
  | expr (e : E)
  | ite (c : E) (a b : List S)
  | for_ (t : Tg) (k : ItK) (its : List E) (body : List S)
  | while_ (c : E) (body : List S)
  | pass
  | sub (o i v : E)
  | star (ts : List Nat) (i : Nat) (e : E)
  | brk
  | cont
  | bad
  | rais (c : Str) (ks : List Str) (es : List E) (sh : List (Nat ⊕ Val))
  | tryA (s : S) (tab : List (Str × Bool)) (i : Option Nat) (su : S)

inductive Out where
  | nx (σ : Slots) | rt (v : Val) | bk (σ : Slots) | ct (σ : Slots)

/-! ### values looked at -/
/-- a list that is tracked -/
def listW (cs : Cells) : Val → Option (List Val)
  | .lst xs => some xs
  | .ref i => match cs[i]? with
    | some (.list xs) => some xs
    | _ => none
  | _ => none
/-- a list as it is read -/
def listOf (cs : Cells) : Val → Option (List Val)
  | .lst xs => some xs
  | .fro xs => some xs
  | .ref i => match cs[i]? with
    | some (.list xs) => some xs
    | _ => none
  | _ => none
def truth (cs : Cells) : Val → Option Bool
  | .non => some false
  | .bl b => some b
  | .int i => some (i != 0)
  | .str x => if x.length ≤ sizeLine then some ((x.length : Int) != 0) else none
  | .tup xs => some (!xs.isEmpty)
  | v => (listOf cs v).map fun xs => !xs.isEmpty

mutual
/-- as plain data -/
def datOf : Val → Option PyData
  | .non => some .none
  | .bl b => some (.bool b)
  | .int i => some (.int i)
  | .str x => some (.str x)
  | .tup xs => (datsOf xs).map .tuple
  | .lst xs => (datsOf xs).map .list
  | .fro xs => (datsOf xs).map .list
  | _ => none
def datsOf : List Val → Option (List PyData)
  | [] => some []
  | v :: vs => match datOf v, datsOf vs with
    | some d, some ds => some (d :: ds)
    | _, _ => none
end
/-- data of a value, a list's cell too -/
def datAt (cs : Cells) : Val → Option PyData
  | .ref i => match cs[i]? with
    | some (.list xs) => (datsOf xs).map .list
    | _ => none
  | v => datOf v
/-- repr's text -/
def shownAt (cs : Cells) (v : Val) : Option Str := match datAt cs v with
  | some d => if d.showable = true ∧ d.hasDict = false ∧ d.depth ≤ 60 ∧ d.shown.length ≤ sizeLine then some d.shown else none
  | none => none
def noRef : Val → Bool
  | .ref _ => false
  | _ => true
/-- == -/
def eqStr (x y : Val) : Option Bool := match x, y with
  | .str i, .str j => some (decide (i = j))
  | _, _ => none
def eqVal (cs : Cells) (x y : Val) : Option Bool := match eqStr x y with
  | some b => some b
  | none => match datAt cs x, datAt cs y with
  | some d, some e => if SeqAt.shaped d && SeqAt.shaped e then some (PyData.eqv d e) else none
  | _, _ => none

/-! ### operators -/
def fits (i j : Int) : Bool := decide (i.natAbs.log2 + j.natAbs.log2 < 1000000)
def addV (x y : Val) (cs : Cells) : R Val := match x, y with
  | .int i, .int j => .ok (.int (i + j)) cs
  | .str i, .str j => if i.length + j.length ≤ sizeLine then .ok (.str (i ++ j)) cs else .stuck
  | .tup xs, .tup ys => if xs.length + ys.length ≤ sizeLine then .ok (.tup (xs ++ ys)) cs else .stuck
  | x, y => match listW cs x, listW cs y with
    | some xs, some ys => if xs.length + ys.length ≤ sizeLine then .ok (.lst (xs ++ ys)) cs else .stuck
    | _, _ => .stuck
def mulV (x y : Val) (cs : Cells) : R Val := match x, y with
  | .int i, .int j => if fits i j then .ok (.int (i * j)) cs else .stuck
  | .str x, .int n => if n < 1 then (if -(2 ^ 63) ≤ n then .ok (.str Str.empty) cs else .stuck) else if n = 1 ∨ x.length = 0 then (if n < 2 ^ 63 then .ok (.str x) cs else .stuck)
    else if x.length * n.toNat ≤ sizeLine then .ok (.str ⟨(List.replicate n.toNat x.cps).foldl (· ++ ·) #[]⟩) cs else .stuck
  | .lst xs, .int k => if 0 ≤ k ∧ k < 2 ^ 63 ∧ xs.length * k.toNat ≤ sizeLine then .ok (.lst (List.replicate k.toNat xs).flatten) cs else .stuck
  | _, _ => .stuck
def binop (op : Bop) (x y : Val) (cs : Cells) : R Val := match op with
  | .add => addV x y cs
  | .mul => mulV x y cs
  | .sub => match x, y with
    | .int i, .int j => .ok (.int (i - j)) cs
    | _, _ => .stuck
  | .mod => match x, y with
    | .int i, .int j => if j ≠ 0 then .ok (.int (i.fmod j)) cs else .stuck
    | _, _ => .stuck
  | .fdiv => match x, y with
    | .int i, .int j => if 0 < j ∧ j.natAbs.log2 < 9000 then .ok (.int (i / j)) cs else .stuck
    | _, _ => .stuck
  | .pow => match x, y with
    | .int i, .int j => if 0 ≤ j ∧ j ≤ 1000000 ∧ i.natAbs < 2 ^ 64 then .ok (.int (i ^ j.toNat)) cs else .stuck
    | _, _ => .stuck
def icmp (f : Int → Int → Bool) (x y : Val) (cs : Cells) : R Val := match x, y with
  | .int i, .int j => .ok (.bl (f i j)) cs
  | _, _ => .stuck
/-- is: against None, of two bools -/
def isV (x y : Val) (cs : Cells) : Option Bool := match y with
  | .non => (match x with
    | .ref i => match cs[i]? with
      | some (.dict _) => some false
      | some (.list _) => some false
      | _ => none
    | x => some (decide (x = .non)))
  | .bl b => (match x with
    | .bl a => some (decide (a = b))
    | _ => none)
  | _ => none
def inV' (x y : Val) (cs : Cells) : Option Bool := match y with
  | .str j => (match x with
    | .str i => some (!(Builtin.Str.occurrences j i 0 j.length 1).isEmpty)
    | _ => none)
  | y => match datAt cs x, datAt cs y with
    | some d, some (.list ds) => if SeqAt.shaped d && SeqAt.shaped (.list ds) then some (ds.any fun z => PyData.eqv z d) else none
    | some d, some (.tuple ds) => if SeqAt.shaped d && SeqAt.shaped (.tuple ds) then some (ds.any fun z => PyData.eqv z d) else none
    | _, _ => none
def cmpop (op : Cop) (x y : Val) (cs : Cells) : R Val := match op with
  | .eq => (R.of (eqVal cs x y) cs).bind fun b cs => .ok (.bl b) cs
  | .ne => (R.of (eqVal cs x y) cs).bind fun b cs => .ok (.bl (!b)) cs
  | .lt => icmp (fun i j => decide (i < j)) x y cs
  | .le => icmp (fun i j => decide (i ≤ j)) x y cs
  | .gt => icmp (fun i j => decide (j < i)) x y cs
  | .ge => icmp (fun i j => decide (j ≤ i)) x y cs
  | .is_ => (R.of (isV x y cs) cs).bind fun b cs => .ok (.bl b) cs
  | .isNot => (R.of (isV x y cs) cs).bind fun b cs => .ok (.bl (!b)) cs
  | .isIn => (R.of (inV' x y cs) cs).bind fun b cs => .ok (.bl b) cs
  | .notIn => (R.of (inV' x y cs) cs).bind fun b cs => .ok (.bl (!b)) cs

/-- a key stored -/
def putD (kvs : List (L2.Key × Val)) (k : L2.Key) (v : Val) : List (L2.Key × Val) := if (kvs.any fun kv => decide (kv.1 = k)) = true then kvs.map (fun kv => if kv.1 = k then (kv.1, v) else kv) else kvs ++ [(k, v)]
def getD (kvs : List (L2.Key × Val)) (k : L2.Key) : Option Val := (kvs.find? fun kv => decide (kv.1 = k)).map (·.2)
/-! ### items -/
def ixV (x y : Val) (cs : Cells) : R Val := match x, y with
  | .tup xs, .int i => R.of (L2.atI xs i) cs
  | .str z, .int i => if z.length ≤ sizeLine then (R.of (L2.atI z.cps.toList i) cs).bind fun c cs => .ok (.str ⟨#[c]⟩) cs else .stuck
  | .ref r, .str k => match cs[r]? with
    | some (.dict kvs) => R.of (getD kvs (.inr k)) cs
    | _ => .stuck
  | x, .int i => match listOf cs x with
    | some xs => R.of (L2.atI xs i) cs
    | none => .stuck
  | _, _ => .stuck
def cutL (xs : List Val) (lo hi : Option Int) : List Val := (xs.drop (HT.sIx xs.length 0 lo)).take (HT.sIx xs.length xs.length hi - HT.sIx xs.length 0 lo)
def optI (p : Bool) (v : Val) : Option (Option Int) := match p with
  | false => some none
  | true => match v with
    | .int i => some (some i)
    | _ => none
def sliceV (x : Val) (lo hi : Option Int) (cs : Cells) : R Val := match x with
  | .tup xs => .ok (.tup (cutL xs lo hi)) cs
  | .str z => if z.length ≤ sizeLine then .ok (.str (L2.cutS z lo hi)) cs else .stuck
  | x => match listOf cs x with
    | some xs => .ok (.lst (cutL xs lo hi)) cs
    | none => .stuck

/-! ### built-ins -/
def typeName : Val → Option String
  | .non => some "NoneType"
  | .bl _ => some "bool"
  | .int _ => some "int"
  | .str _ => some "str"
  | .tup _ => some "tuple"
  | .lst _ => some "list"
  | .fro _ => some "list"
  | .emp => some "dict"
  | _ => none
/-- isinstance among the built-in types that are met -/
def instB (t c : String) : Option Bool := if ["int", "str", "tuple", "list", "bool", "dict"].contains c then some (t == c || (t == "bool" && c == "int")) else none
def strsOf : List Val → Option (List Str)
  | [] => some []
  | .str x :: vs => (strsOf vs).map (x :: ·)
  | _ => none
def intsOf : List Val → Option (List Int)
  | [] => some []
  | .int x :: vs => (intsOf vs).map (x :: ·)
  | _ => none
def blsOf : List Val → Option (List Bool)
  | [] => some []
  | .bl x :: vs => (blsOf vs).map (x :: ·)
  | _ => none
def seqOf (cs : Cells) : Val → Option (List Val)
  | .tup xs => some xs
  | v => listOf cs v
def primV (p : Prim) (vs : List Val) (cs : Cells) : R Val := match p, vs with
  | .len, [.str x] => if x.length ≤ sizeLine then .ok (.int x.length) cs else .stuck
  | .len, [v] => (R.of (seqOf cs v) cs).bind fun xs cs => .ok (.int xs.length) cs
  | .abs, [.int i] => .ok (.int (if i < 0 then -i else i)) cs
  | .max, [.int i, .int j] => .ok (.int (if j > i then j else i)) cs
  | .min, [.int i, .int j] => .ok (.int (if j < i then j else i)) cs
  | .int, [.int i] => .ok (.int i) cs
  | .int, [.bl b] => .ok (.int (if b then 1 else 0)) cs
  | .int, [.str x] => if x.length ≤ 640 then (R.of (PySem.intText? x) cs).bind fun n cs => .ok (.int n) cs else .stuck
  | .str, [.int i] => if i.natAbs.log2 < 1920 then .ok (.str (toString i)) cs else .stuck
  | .repr, [.emp] => .ok (.str "{}") cs
  | .repr, [v] => (R.of (shownAt cs v) cs).bind fun x cs => .ok (.str x) cs
  | .sum, [v] => (R.of ((listOf cs v).bind intsOf) cs).bind fun ns cs => .ok (.int ns.sum) cs
  | .all, [v] => (R.of ((listOf cs v).bind blsOf) cs).bind fun ns cs => .ok (.bl (ns.all id)) cs
  | .any, [v] => (R.of ((listOf cs v).bind blsOf) cs).bind fun ns cs => .ok (.bl (ns.any id)) cs
  | .isInst, [v, .ty c] => (R.of ((typeName v).bind fun t => instB t c) cs).bind fun b cs => .ok (.bl b) cs
  | .tuple, [.tup xs] => .ok (.tup xs) cs
  | .tuple, [v] => (R.of (listOf cs v) cs).bind fun xs cs => .ok (.tup xs) cs
  | .list, [v] => (R.of (seqOf cs v) cs).bind fun xs cs => .ok (.lst xs) cs
  | _, _ => .stuck
def smethV (p : Sm) (a : Str) (vs : List Val) (cs : Cells) : R Val := match p, vs with
  | .split, [.str b] => if (b.length == 0) = false ∧ a.length + 2 ≤ sizeLine then .ok (.lst ((Txt.split a b).map .str)) cs else .stuck
  | .join, [v] => (R.of ((seqOf cs v).bind strsOf) cs).bind fun ys cs => if (ys.map (·.length)).sum + ys.length * a.length ≤ 16777216 then .ok (.str (Txt.join a ys)) cs else .stuck
  | .startswith, [.str b] => .ok (.bl (Txt.startswith a b)) cs
  | .upper, [] => if a.length ≤ 5592405 then .ok (.str (Txt.upper a)) cs else .stuck
  | .index, [.str b] => (R.of (Txt.index0 a b) cs).bind fun k cs => .ok (.int (k : Nat)) cs
  | _, _ => .stuck

def lmethV (p : Lm) (x : Val) (vs : List Val) (cs : Cells) : R Val := match x with
  | .ref i => (match cs[i]? with
    | some (.list xs) => (match p, vs with
      | .append, [v] => if noRef v && decide (xs.length < sizeLine) then .ok .non (cs.set i (.list (xs ++ [v]))) else .stuck
      | .insert, [.int k, v] => if noRef v && decide (xs.length < sizeLine) && decide (0 ≤ k) && decide (k < 2 ^ 63) then .ok .non (cs.set i (.list (xs.take k.toNat ++ [v] ++ xs.drop k.toNat))) else .stuck
      | .extend, [.lst ys] => if decide (xs.length + ys.length ≤ sizeLine) then .ok .non (cs.set i (.list (xs ++ ys))) else .stuck
      | .pop, [] => (R.of xs[xs.length - 1]? cs).bind fun y cs => .ok y (cs.set i (.list xs.dropLast))
      | _, _ => .stuck)
    | _ => .stuck)
  | _ => .stuck
/-- is an exception of one of some classes -/
def excIs (x : Val) (tab : List (Str × Bool)) : Option Bool := match x with
  | .exc n _ _ => tab.lookup n
  | _ => none
/-- a field of an exception -/
def fldV (x : Val) (f : Str) (tab : List Str) : Option Val := match x with
  | .exc n ks vs => if tab.contains n then (ks.zip vs).lookup f else none
  | _ => none
/-- what a suite leaves: its own name goes -/
def goneO (i : Option Nat) : Out → Out
  | .nx σ => .nx (match i with | some i => σ.set i none | none => σ)
  | .bk σ => .bk (match i with | some i => σ.set i none | none => σ)
  | .ct σ => .ct (match i with | some i => σ.set i none | none => σ)
  | .rt v => .rt v

/-! ### loops -/
def itVal (v : Val) (cs : Cells) : Option (List Val) := match v with
  | .tup xs => some xs
  | .str x => some (x.cps.toList.map fun c => .str ⟨#[c]⟩)
  | v => listOf cs v
def zipV (st : Bool) (vs : List Val) (cs : Cells) : Option (List Val) := match vs with
  | [a, b] => (match seqOf cs a, seqOf cs b with
    | some xs, some ys => if st = true ∧ xs.length ≠ ys.length then none else some ((xs.zip ys).map fun p => .tup [p.1, p.2])
    | _, _ => none)
  | _ => none
def itemsOf (k : ItK) (vs : List Val) (cs : Cells) : Option (List Val) := match k with
  | .val => (match vs with
    | [v] => itVal v cs
    | _ => none)
  | .rng1 => (match vs with
    | [.int j] => if -(2 ^ 62) ≤ j ∧ j < 2 ^ 62 then some ((List.range j.toNat).map fun i => .int ((0 : Int) + (i : Nat))) else none
    | _ => none)
  | .rng2 => (match vs with
    | [.int i, .int j] => if -(2 ^ 62) ≤ i ∧ i < 2 ^ 62 ∧ -(2 ^ 62) ≤ j ∧ j < 2 ^ 62 then some ((List.range (j - i).toNat).map fun n => .int (i + (n : Nat))) else none
    | _ => none)
  | .enum => (match vs with
    | [v] => (listOf cs v).map fun xs => xs.zipIdx.map fun p => .tup [.int (p.2 : Nat), p.1]
    | _ => none)
  | .zip => zipV false vs cs
  | .zips => zipV true vs cs
/-- what a target of several parts takes apart -/
def seqT : Val → Option (List Val)
  | .tup xs => some xs
  | .lst xs => some xs
  | .fro xs => some xs
  | _ => none
/-- what a starred unpacking gives -/
def starL {α : Type} (n i : Nat) (c : List α → α) (xs : List α) : List α := xs.take i ++ [c ((xs.drop i).take (xs.length + 1 - n))] ++ (xs.drop i).drop (xs.length + 1 - n)
mutual
def asgT : Tg → Val → Slots → Option Slots
  | .nm i, v, σ => some (σ.set i (some v))
  | .tp ts, v, σ => match seqT v with
    | some xs => asgTs ts xs σ
    | none => none
def asgTs : List Tg → List Val → Slots → Option Slots
  | [], [], σ => some σ
  | t :: ts, x :: xs, σ => match asgT t x σ with
    | some σ' => asgTs ts xs σ'
    | none => none
  | _, _, _ => none
end
def wipeS (σ : Slots) : List Nat → Slots
  | [] => σ
  | v :: vs => (wipeS σ vs).set v none
/-- a comprehension's turns: what is kept of each item -/
def lcLoop (chk : Cells → Bool) (f : Val → Cells → R (Option Val)) : List Val → Cells → List Val → R (List Val)
  | [], cs, acc => .ok acc cs
  | x :: xs, cs, acc => (f x cs).bind fun o cs => match chk cs with
    | false => .stuck
    | true => match o with
      | some v => if noRef v && decide (acc.length < sizeLine) then lcLoop chk f xs cs (acc ++ [v]) else .stuck
      | none => lcLoop chk f xs cs acc
def forLoop (chk : Cells → Bool) (f : Val → Slots → Cells → R Out) : List Val → Slots → Cells → R Out
  | [], σ, cs => .ok (.nx σ) cs
  | x :: xs, σ, cs => (f x σ cs).bind fun o cs => match o with
    | .nx σ => if chk cs then forLoop chk f xs σ cs else .stuck
    | .ct σ => if chk cs then forLoop chk f xs σ cs else .stuck
    | .bk σ => .ok (.nx σ) cs
    | .rt v => .ok (.rt v) cs
def whLoop (c : Slots → Cells → R Bool) (b : Slots → Cells → R Out) : Nat → Slots → Cells → R Out
  | 0, _, _ => .stuck
  | n + 1, σ, cs => (c σ cs).bind fun t cs => match t with
    | false => .ok (.nx σ) cs
    | true => (b σ cs).bind fun o cs => match o with
      | .nx σ => whLoop c b n σ cs
      | .ct σ => whLoop c b n σ cs
      | .bk σ => .ok (.nx σ) cs
      | .rt v => .ok (.rt v) cs
@[irreducible] def FUEL : Nat := 2 ^ 4096
def chkOf (k : ItK) (vs : List Val) (xs : List Val) (cs : Cells) : Bool := decide (itemsOf k vs cs = some xs)
def shape (sh : List (Nat ⊕ Val)) (vs : List Val) : Option (List Val) := sh.mapM fun
  | .inl i => vs[i]?
  | .inr v => some v

abbrev Cl := Str → List Val → Cells → R Val
mutual
def ev (cl : Cl) : E → Slots → Cells → R Val
  | .const v, _, cs => .ok v cs
  | .var i, σ, cs => match σ[i]? with
    | some (some v) => .ok v cs
    | _ => .stuck
  | .bin op a b, σ, cs => (ev cl a σ cs).bind fun x cs => (ev cl b σ cs).bind fun y cs => binop op x y cs
  | .neg a, σ, cs => (ev cl a σ cs).bind fun x cs => match x with
    | .int i => .ok (.int (-i)) cs
    | _ => .stuck
  | .cmp op a b, σ, cs => (ev cl a σ cs).bind fun x cs => (ev cl b σ cs).bind fun y cs => cmpop op x y cs
  | .chain op op' a b c, σ, cs => (ev cl a σ cs).bind fun x cs => (ev cl b σ cs).bind fun y cs => (cmpop op x y cs).bind fun t cs => match t with
    | .bl true => (ev cl c σ cs).bind fun z cs => cmpop op' y z cs
    | .bl false => .ok (.bl false) cs
    | _ => .stuck
  | .and_ a b, σ, cs => (ev cl a σ cs).bind fun x cs => match truth cs x with
    | some true => ev cl b σ cs
    | some false => .ok x cs
    | none => .stuck
  | .or_ a b, σ, cs => (ev cl a σ cs).bind fun x cs => match truth cs x with
    | some true => .ok x cs
    | some false => ev cl b σ cs
    | none => .stuck
  | .not_ a, σ, cs => (ev cl a σ cs).bind fun x cs => match truth cs x with
    | some t => .ok (.bl (!t)) cs
    | none => .stuck
  | .ite c a b, σ, cs => (ev cl c σ cs).bind fun x cs => match truth cs x with
    | some true => ev cl a σ cs
    | some false => ev cl b σ cs
    | none => .stuck
  | .tup es, σ, cs => (evs cl es σ cs).bind fun vs cs => if vs.all noRef && decide (vs.length ≤ sizeLine) then .ok (.tup vs) cs else .stuck
  | .lst es, σ, cs => (evs cl es σ cs).bind fun vs cs => if vs.all noRef && decide (vs.length ≤ sizeLine) then .ok (.lst vs) cs else .stuck
  | .ix a b, σ, cs => (ev cl a σ cs).bind fun x cs => (ev cl b σ cs).bind fun y cs => ixV x y cs
  | .slice a lo hi p q, σ, cs => (ev cl a σ cs).bind fun x cs => (ev cl lo σ cs).bind fun l cs => (R.of (optI p l) cs).bind fun l cs => (ev cl hi σ cs).bind fun h cs => (R.of (optI q h) cs).bind fun h cs => sliceV x l h cs
  | .call f es sh, σ, cs => (evs cl es σ cs).bind fun vs cs => (R.of (shape sh vs) cs).bind fun vs cs => cl f vs cs
  | .prim p es, σ, cs => (evs cl es σ cs).bind fun vs cs => primV p vs cs
  | .smeth p o es, σ, cs => (ev cl o σ cs).bind fun x cs => match x with
    | .str a => (evs cl es σ cs).bind fun vs cs => smethV p a vs cs
    | _ => .stuck
  | .lcomp elt tg k its ifs own, σ, cs => (evs cl its σ cs).bind fun vs cs => (R.of (itemsOf k vs cs) cs).bind fun xs cs =>
      (lcLoop (chkOf k vs xs) (fun x cs => match asgT tg x (wipeS σ own) with
        | none => .stuck
        | some σ' => match tests cl ifs σ' cs with
          | .ok true cs => (match ev cl elt σ' cs with
            | .ok v cs => .ok (some v) cs
            | _ => .stuck)
          | .ok false cs => .ok none cs
          | _ => .stuck) xs cs []).bind fun ys cs => .ok (.lst ys) cs
  | .dict ks es, σ, cs => (evs cl es σ cs).bind fun vs cs => if vs.all noRef && decide (vs.length = ks.length) && decide (ks.length ≤ 15) && decide (ks.Nodup) then .ok (.ref cs.length) (cs ++ [.dict ((ks.map Sum.inr).zip vs)]) else .stuck
  | .fstr es, σ, cs => (evf cl es Str.empty σ cs).bind fun y cs => .ok (.str y) cs
  | .fmt a, σ, cs => (ev cl a σ cs).bind fun x cs => match x with
    | .str y => if y.length ≤ sizeLine then .ok (.str y) cs else .stuck
    | .int i => if i.natAbs.log2 < 1920 then .ok (.str (toString i)) cs else .stuck
    | _ => .stuck
  | .emp, _, cs => .ok .emp cs
  | .bad, _, _ => .stuck
  | .own a, σ, cs => (ev cl a σ cs).bind fun v cs => match v with
    | .lst xs => .ok (.ref cs.length) (cs ++ [.list xs])
    | _ => .stuck
  | .lmeth p o es, σ, cs => (ev cl o σ cs).bind fun x cs => match listW cs x with
    | some _ => (evs cl es σ cs).bind fun vs cs => lmethV p x vs cs
    | none => .stuck
  | .isExc a tab, σ, cs => (ev cl a σ cs).bind fun x cs => (R.of (excIs x tab) cs).bind fun b cs => .ok (.bl b) cs
  | .fld a f tab, σ, cs => (ev cl a σ cs).bind fun x cs => R.of (fldV x f tab) cs
  | .zipl st es, σ, cs => (evs cl es σ cs).bind fun vs cs => (R.of (zipV st vs cs) cs).bind fun xs cs => .ok (.lst xs) cs
  | .mkx c ks es sh, σ, cs => (evs cl es σ cs).bind fun vs cs => (R.of (shape sh vs) cs).bind fun vs cs => if vs.all noRef && decide (vs.length = ks.length) then .ok (.exc c ks vs) cs else .stuck
def evf (cl : Cl) : List E → Str → Slots → Cells → R Str
  | [], acc, _, cs => .ok acc cs
  | e :: es, acc, σ, cs => (ev cl e σ cs).bind fun x cs => match x with
    | .str y => if (acc ++ y).length ≤ sizeLine then evf cl es (acc ++ y) σ cs else .stuck
    | _ => .stuck
def evs (cl : Cl) : List E → Slots → Cells → R (List Val)
  | [], _, cs => .ok [] cs
  | e :: es, σ, cs => (ev cl e σ cs).bind fun v cs => (evs cl es σ cs).bind fun vs cs => .ok (v :: vs) cs
def tests (cl : Cl) : List E → Slots → Cells → R Bool
  | [], _, cs => .ok true cs
  | e :: es, σ, cs => (ev cl e σ cs).bind fun v cs => match truth cs v with
    | some true => tests cl es σ cs
    | some false => .ok false cs
    | none => .stuck
end
def tst (cl : Cl) (e : E) (σ : Slots) (cs : Cells) : R Bool := (ev cl e σ cs).bind fun x cs => R.of (truth cs x) cs
def setAll (σ : Slots) : List Nat → List Val → Slots
  | i :: is, v :: vs => setAll (σ.set i (some v)) is vs
  | _, _ => σ
mutual
def ex (cl : Cl) : S → Slots → Cells → R Out
  | .ret e, σ, cs => (ev cl e σ cs).bind fun v cs => .ok (.rt v) cs
  | .asg t e, σ, cs => (ev cl e σ cs).bind fun v cs => (R.of (asgT t v σ) cs).bind fun σ cs => .ok (.nx σ) cs
  | .par is es, σ, cs => (evs cl es σ cs).bind fun vs cs => if vs.length = is.length then .ok (.nx (setAll σ is vs)) cs else .stuck
  | .expr e, σ, cs => (ev cl e σ cs).bind fun _ cs => .ok (.nx σ) cs
  | .ite c a b, σ, cs => (tst cl c σ cs).bind fun t cs => match t with
    | true => exs cl a σ cs
    | false => exs cl b σ cs
  | .for_ t k its body, σ, cs => (evs cl its σ cs).bind fun vs cs => (R.of (itemsOf k vs cs) cs).bind fun xs cs =>
      forLoop (chkOf k vs xs) (fun x σ cs => (R.of (asgT t x σ) cs).bind fun σ cs => exs cl body σ cs) xs σ cs
  | .while_ c body, σ, cs => whLoop (fun σ cs => tst cl c σ cs) (fun σ cs => exs cl body σ cs) FUEL σ cs
  | .pass, σ, cs => .ok (.nx σ) cs
  | .brk, σ, cs => .ok (.bk σ) cs
  | .cont, σ, cs => .ok (.ct σ) cs
  | .bad, _, _ => .stuck
  | .rais c ks es sh, σ, cs => (evs cl es σ cs).bind fun vs cs => (R.of (shape sh vs) cs).bind fun vs cs => if vs.all noRef && decide (vs.length = ks.length) then .ex (.exc c ks vs) cs else .stuck
  | .tryA s tab i su, σ, cs => match ex cl s σ cs with
    | .ok o cs => .ok o cs
    | .stuck => .stuck
    | .ex x cs => match excIs x tab with
      | none => .stuck
      | some false => .ex x cs
      | some true => match ex cl su (match i with | some i => σ.set i (some x) | none => σ) cs with
        | .ok o cs => .ok (goneO i o) cs
        | _ => .stuck
  | .star ts i e, σ, cs => (ev cl e σ cs).bind fun v cs => (R.of (seqOf cs v) cs).bind fun xs cs =>
      if i < ts.length ∧ ts.length ≤ xs.length + 1 then (R.of (asgTs (ts.map .nm) (starL ts.length i .lst xs) σ) cs).bind fun σ cs => .ok (.nx σ) cs else .stuck
  | .sub o i v, σ, cs => (ev cl v σ cs).bind fun y cs => (ev cl o σ cs).bind fun x cs => (ev cl i σ cs).bind fun z cs => match x, z with
    | .ref r, .str k => (match cs[r]? with
      | some (.dict kvs) => if noRef y && decide (kvs.length < sizeLine) then .ok (.nx σ) (cs.set r (.dict (putD kvs (.inr k) y))) else .stuck
      | _ => .stuck)
    | _, _ => .stuck
def exs (cl : Cl) : List S → Slots → Cells → R Out
  | [], σ, cs => .ok (.nx σ) cs
  | s :: ss, σ, cs => (ex cl s σ cs).bind fun o cs => match o with
    | .nx σ => exs cl ss σ cs
    | o => .ok o cs
end
/-- a def -/
structure Fn where
  n : Nat
  slots : Nat
  body : List S
/-- a def is left: its own cells go, but for one that is handed back -/
def leave (L : Nat) : R Out → R Val
  | .ok (.nx _) cs => .ok .non (cs.take L)
  | .ok (.rt v) cs => (match v with
    | .ref i => if i < L then .ok (.ref i) (cs.take L) else match cs[i]? with
      | some (.list xs) => .ok (.lst xs) (cs.take L)
      | some (.dict kvs) => .ok (.ref L) (cs.take L ++ [.dict kvs])
      | _ => .stuck
    | v => .ok v (cs.take L))
  | .ok _ _ => .stuck
  | .ex x cs => .ex x (cs.take L)
  | .stuck => .stuck
def callAt (tb : List (Str × Fn)) : Nat → Cl
  | 0, _, _, _ => .stuck
  | k + 1, f, vs, cs => match tb.lookup f with
    | some d => if vs.length = d.n then leave cs.length (exs (callAt tb k) d.body (vs.map some ++ List.replicate (d.slots - d.n) none) cs) else .stuck
    | none => .stuck
end Ps

/-! PsRel: trees against the abstract heap. -/
namespace Ps
open PySem L2

/-- where our cells stand; what is reserved (a list that a comprehension makes) -/
structure MP where
  c : List (Option Addr)
  z : List Addr
def MP.has (m : MP) (a : Addr) : Prop := some a ∈ m.c ∨ a ∈ m.z
/-- a list, a tuple of the written part -/
def KL (K : PySem.W.Frag) (a : Addr) (xs : List V) : Prop :=
  ∃ (o : Obj) (its : Array Value) (n : Nat), K.lookup a = some o ∧ o.cls = .type "list" ∧ o.dict = none ∧ o.data = .seq its n ∧ its.size ≤ sizeLine ∧ Vals xs its.toList
def KT (K : PySem.W.Frag) (a : Addr) (xs : List V) : Prop :=
  ∃ (o : Obj) (its : Array Value) (n : Nat), K.lookup a = some o ∧ o.cls = .type "tuple" ∧ o.data = .seq its n ∧ its.size ≤ sizeLine ∧ Vals xs its.toList
def RdL (K : PySem.W.Frag) (m : MP) (H : Hp) (a : Addr) (xs : List V) : Prop := (Rd H a (.lst xs) ∧ ¬ m.has a) ∨ KL K a xs
def RdT (K : PySem.W.Frag) (m : MP) (H : Hp) (a : Addr) (xs : List V) : Prop := (Rd H a (.tup xs) ∧ ¬ m.has a) ∨ KT K a xs
theorem RdL.sq {K : PySem.W.Frag} {m : MP} {H : Hp} {a : Addr} {xs : List V} (h : RdL K m H a xs) : SqL K H a xs := h.imp (·.1) id
theorem RdT.sq {K : PySem.W.Frag} {m : MP} {H : Hp} {a : Addr} {xs : List V} (h : RdT K m H a xs) : SqT K H a xs := h.imp (·.1) id

/-- what is not ours stays, and stays not ours -/
def Mon (m : MP) (H : Hp) (m' : MP) (H' : Hp) : Prop := ∀ a o, H a = some o → ¬ m.has a → H' a = some o ∧ ¬ m'.has a
/-- how the world goes on: what is not ours to change stays; what is ours may be forgotten; what is new was free; what is reserved stays -/
structure Ext (m : MP) (H : Hp) (m' : MP) (H' : Hp) : Prop where
  keep : ∀ a o, H a = some o → ¬ m.has a → H' a = some o
  len : m.c.length ≤ m'.c.length
  at_ : ∀ (i : Nat) (o : Option Addr), m.c[i]? = some o → m'.c[i]? = some o ∨ m'.c[i]? = some none
  new : ∀ a, m'.has a → m.has a ∨ H a = none
  z : m'.z = m.z
  zk : ∀ a ∈ m.z, H' a = H a
theorem Ext.refl (m : MP) (H : Hp) : Ext m H m H := ⟨fun _ _ h _ => h, Nat.le_refl _, fun _ _ h => .inl h, fun _ h => .inl h, rfl, fun _ _ => rfl⟩
theorem Ext.out {m m' : MP} {H H' : Hp} (e : Ext m H m' H') {a : Addr} {o : HO} (h : H a = some o) (n : ¬ m.has a) : ¬ m'.has a := fun z => by
  rcases e.new a z with q | q
  · exact n q
  · rw [h] at q; cases q
theorem Ext.mon {m m' : MP} {H H' : Hp} (e : Ext m H m' H') : Mon m H m' H' := fun a o h n => ⟨e.keep a o h n, e.out h n⟩
theorem Ext.trans {m m1 m2 : MP} {H H1 H2 : Hp} (a : Ext m H m1 H1) (b : Ext m1 H1 m2 H2) : Ext m H m2 H2 where
  keep := fun x o h n => b.keep x o (a.keep x o h n) (a.out h n)
  len := Nat.le_trans a.len b.len
  at_ := fun i o h => by
    rcases a.at_ i o h with q | q
    · exact b.at_ i o q
    · rcases b.at_ i _ q with z | z <;> exact .inr z
  new := fun x h => by
    rcases b.new x h with q | q
    · exact a.new x q
    · cases z : H x with
      | none => exact .inr rfl
      | some o =>
        by_cases n : m.has x
        · exact .inl n
        · rw [a.keep x o z n] at q; cases q
  z := b.z.trans a.z
  zk := fun x h => (b.zk x (by rw [a.z]; exact h)).trans (a.zk x h)
theorem Rd.mon {m m' : MP} {H H' : Hp} {a : Addr} {u : HO} (r : Rd H a u) (n : ¬ m.has a) (e : Mon m H m' H') : Rd H' a u ∧ ¬ m'.has a := by
  rcases r with r | ⟨o, r⟩
  · exact ⟨.inl (e _ _ r n).1, (e _ _ r n).2⟩
  · exact ⟨.inr ⟨o, (e _ _ r n).1⟩, (e _ _ r n).2⟩
theorem RdL.mon {K : PySem.W.Frag} {m m' : MP} {H H' : Hp} {a : Addr} {xs : List V} (h : RdL K m H a xs) (e : Mon m H m' H') : RdL K m' H' a xs := by
  rcases h with ⟨r, n⟩ | h
  · exact .inl (Rd.mon r n e)
  · exact .inr h
theorem RdT.mon {K : PySem.W.Frag} {m m' : MP} {H H' : Hp} {a : Addr} {xs : List V} (h : RdT K m H a xs) (e : Mon m H m' H') : RdT K m' H' a xs := by
  rcases h with ⟨r, n⟩ | h
  · exact .inl (Rd.mon r n e)
  · exact .inr h

/-- at a: an exception, its class, its dict -/
def exv (a : Addr) (c : Value) (d : Option Addr) : HO := .ext fun h => ∃ (oe : Obj) (vs : Array Value), h.get? a = some oe ∧ Zc c d oe ∧ oe.data = .fields vs
/-- its fields -/
def ExD (m : MP) (H : Hp) (d : Option Addr) (ks : List Str) (us : List V) : Prop := (ks = [] ∧ us = [] ∧ d = none) ∨ ∃ dd, d = some dd ∧ ks.length = us.length ∧ H dd = some (.xd (ks.zip us)) ∧ ¬ m.has dd
theorem ExD.mon {m m' : MP} {H H' : Hp} {d : Option Addr} {ks : List Str} {us : List V} (h : ExD m H d ks us) (e : Mon m H m' H') : ExD m' H' d ks us := by
  rcases h with h | ⟨dd, h1, h2, h3, h4⟩
  · exact .inl h
  · exact .inr ⟨dd, h1, h2, (e _ _ h3 h4).1, (e _ _ h3 h4).2⟩
/-- what is fixed: the written part, the module's names -/
structure Wd where
  K : PySem.W.Frag
  mg : Str → Option Value

mutual
/-- a tree and a value -/
inductive VR (w : Wd) (m : MP) (H : Hp) : Val → V → Prop
  | non : VR w m H .non .non
  | bl (b : Bool) : VR w m H (.bl b) (.bl b)
  | int (i : Int) : VR w m H (.int i) (.int i)
  | str (x : Str) : VR w m H (.str x) (.str x)
  | ty (n : String) : VR w m H (.ty n) (.ty n)
  | fn {x : Str} {a : Addr} : w.mg x = some (.ref a) → VR w m H (.fn x) (.ref a)
  | tup {a : Addr} {xs : List Val} {ys : List V} : RdT w.K m H a ys → VRs w m H xs ys → VR w m H (.tup xs) (.ref a)
  | lst {a : Addr} {xs : List Val} {ys : List V} : H a = some (.lst ys) → ¬ m.has a → VRs w m H xs ys → VR w m H (.lst xs) (.ref a)
  | fro {a : Addr} {xs : List Val} {ys : List V} : RdL w.K m H a ys → VRs w m H xs ys → VR w m H (.fro xs) (.ref a)
  | emp {a : Addr} : H a = some (.dK []) → ¬ m.has a → VR w m H .emp (.ref a)
  | exc {a C : Addr} {n : Str} {ks : List Str} {vs : List Val} {us : List V} {d : Option Addr} : H a = some (exv a (.ref C) d) → ¬ m.has a → w.mg n = some (.ref C) → ExD m H d ks us → VRs w m H vs us → VR w m H (.exc n ks vs) (.ref a)
inductive VRs (w : Wd) (m : MP) (H : Hp) : List Val → List V → Prop
  | nil : VRs w m H [] []
  | cons {x : Val} {xs : List Val} {y : V} {ys : List V} : VR w m H x y → VRs w m H xs ys → VRs w m H (x :: xs) (y :: ys)
end
mutual
theorem VR.mon {w : Wd} {m m' : MP} {H H' : Hp} (e : Mon m H m' H') : ∀ {x : Val} {u : V}, VR w m H x u → VR w m' H' x u
  | _, _, .non => .non
  | _, _, .bl b => .bl b
  | _, _, .int i => .int i
  | _, _, .str x => .str x
  | _, _, .ty n => .ty n
  | _, _, .fn h => .fn h
  | _, _, .tup r h => .tup (r.mon e) (VRs.mon e h)
  | _, _, .lst r n h => .lst (e _ _ r n).1 (e _ _ r n).2 (VRs.mon e h)
  | _, _, .fro r h => .fro (r.mon e) (VRs.mon e h)
  | _, _, .emp h n => .emp (e _ _ h n).1 (e _ _ h n).2
  | _, _, .exc h n g d r => .exc (e _ _ h n).1 (e _ _ h n).2 g (d.mon e) (VRs.mon e r)
theorem VRs.mon {w : Wd} {m m' : MP} {H H' : Hp} (e : Mon m H m' H') : ∀ {xs : List Val} {us : List V}, VRs w m H xs us → VRs w m' H' xs us
  | _, _, .nil => .nil
  | _, _, .cons h t => .cons (VR.mon e h) (VRs.mon e t)
end
theorem VR.ext {w : Wd} {m m' : MP} {H H' : Hp} (e : Ext m H m' H') {x : Val} {u : V} (h : VR w m H x u) : VR w m' H' x u := h.mon e.mon
theorem VRs.ext {w : Wd} {m m' : MP} {H H' : Hp} (e : Ext m H m' H') {xs : List Val} {us : List V} (h : VRs w m H xs us) : VRs w m' H' xs us := h.mon e.mon
theorem VRs.length {w : Wd} {m : MP} {H : Hp} : ∀ {xs : List Val} {us : List V}, VRs w m H xs us → xs.length = us.length
  | _, _, .nil => rfl
  | _, _, .cons _ t => congrArg Nat.succ t.length
theorem VRs.append {w : Wd} {m : MP} {H : Hp} : ∀ {xs xs' : List Val} {us us' : List V}, VRs w m H xs us → VRs w m H xs' us' → VRs w m H (xs ++ xs') (us ++ us')
  | _, _, _, _, .nil, h => h
  | _, _, _, _, .cons a t, h => .cons a (VRs.append t h)
theorem VRs.get {w : Wd} {m : MP} {H : Hp} : ∀ {xs : List Val} {us : List V} {i : Nat} {x : Val}, VRs w m H xs us → xs[i]? = some x → ∃ u, us[i]? = some u ∧ VR w m H x u
  | _, _, _, _, .nil, h => by simp at h
  | _, _, 0, _, .cons a _, h => by simp at h; subst h; exact ⟨_, rfl, a⟩
  | _, _, i + 1, x, .cons _ t, h => by
    obtain ⟨u, e, r⟩ := VRs.get (i := i) (x := x) t (by simpa using h)
    exact ⟨u, by simpa using e, r⟩
theorem VRs.getV {w : Wd} {m : MP} {H : Hp} : ∀ {xs : List Val} {us : List V} {i : Nat} {u : V}, VRs w m H xs us → us[i]? = some u → ∃ x, xs[i]? = some x ∧ VR w m H x u
  | _, _, _, _, .nil, h => by simp at h
  | _, _, 0, _, .cons a _, h => by simp at h; subst h; exact ⟨_, rfl, a⟩
  | _, _, i + 1, x, .cons _ t, h => by
    obtain ⟨u, e, r⟩ := VRs.getV (i := i) (u := x) t (by simpa using h)
    exact ⟨u, by simpa using e, r⟩
theorem VRs.take {w : Wd} {m : MP} {H : Hp} : ∀ {xs : List Val} {us : List V} (n : Nat), VRs w m H xs us → VRs w m H (xs.take n) (us.take n)
  | _, _, 0, _ => by simpa using VRs.nil
  | _, _, _ + 1, .nil => .nil
  | _, _, n + 1, .cons a t => .cons a (VRs.take n t)
theorem VRs.drop {w : Wd} {m : MP} {H : Hp} : ∀ {xs : List Val} {us : List V} (n : Nat), VRs w m H xs us → VRs w m H (xs.drop n) (us.drop n)
  | _, _, 0, h => h
  | _, _, _ + 1, .nil => .nil
  | _, _, n + 1, .cons _ t => VRs.drop n t
theorem VRs.rep {w : Wd} {m : MP} {H : Hp} {xs : List Val} {us : List V} (h : VRs w m H xs us) : ∀ n : Nat, VRs w m H (List.replicate n xs).flatten (List.replicate n us).flatten
  | 0 => .nil
  | n + 1 => by simpa [List.replicate_succ] using h.append (h.rep n)

/-- a value of a name: a tree, or one of our own cells -/
inductive AR (w : Wd) (m : MP) (H : Hp) : Val → V → Prop
  | val {x : Val} {u : V} : VR w m H x u → AR w m H x u
  | ref {i : Nat} {a : Addr} : m.c[i]? = some (some a) → AR w m H (.ref i) (.ref a)
  | dead {i : Nat} {u : V} : m.c[i]? = some none → AR w m H (.ref i) u
theorem AR.mon {w : Wd} {m m' : MP} {H H' : Hp} (e : Mon m H m' H') (at_ : ∀ (i : Nat) (o : Option Addr), m.c[i]? = some o → m'.c[i]? = some o ∨ m'.c[i]? = some none) {x : Val} {u : V} : AR w m H x u → AR w m' H' x u
  | .val h => .val (h.mon e)
  | .ref h => by
    rcases at_ _ _ h with q | q
    · exact .ref q
    · exact .dead q
  | .dead h => by rcases at_ _ _ h with q | q <;> exact .dead q
theorem AR.ext {w : Wd} {m m' : MP} {H H' : Hp} (e : Ext m H m' H') {x : Val} {u : V} (h : AR w m H x u) : AR w m' H' x u := h.mon e.mon e.at_
theorem AR.tree {w : Wd} {m : MP} {H : Hp} {x : Val} {u : V} (h : AR w m H x u) (n : noRef x = true) : VR w m H x u := by
  cases h with
  | val h => exact h
  | ref => cases n
  | dead => cases n
inductive ARs (w : Wd) (m : MP) (H : Hp) : List Val → List V → Prop
  | nil : ARs w m H [] []
  | cons {x : Val} {xs : List Val} {y : V} {ys : List V} : AR w m H x y → ARs w m H xs ys → ARs w m H (x :: xs) (y :: ys)
theorem ARs.ext {w : Wd} {m m' : MP} {H H' : Hp} (e : Ext m H m' H') : ∀ {xs : List Val} {us : List V}, ARs w m H xs us → ARs w m' H' xs us
  | _, _, .nil => .nil
  | _, _, .cons h t => .cons (h.ext e) (ARs.ext e t)
theorem ARs.length {w : Wd} {m : MP} {H : Hp} : ∀ {xs : List Val} {us : List V}, ARs w m H xs us → xs.length = us.length
  | _, _, .nil => rfl
  | _, _, .cons _ t => congrArg Nat.succ t.length
theorem ARs.trees {w : Wd} {m : MP} {H : Hp} : ∀ {xs : List Val} {us : List V}, ARs w m H xs us → xs.all noRef = true → VRs w m H xs us
  | _, _, .nil, _ => .nil
  | _, _, .cons h t, n => by
    simp only [List.all_cons, Bool.and_eq_true] at n
    exact .cons (h.tree n.1) (ARs.trees t n.2)

/-- what stands in a cell of ours -/
def CeR (w : Wd) (m : MP) (H : Hp) (a : Addr) : Cell → Prop
  | .list xs => ∃ ys, H a = some (.lst ys) ∧ VRs w m H xs ys
  | .dict kvs => ∃ lvs, H a = some (.dK lvs) ∧ Paired (fun (p : Key × Val) (q : Key × V) => p.1 = q.1 ∧ VR w m H p.2 q.2) kvs lvs
  | .dead => True
structure CsR (w : Wd) (m : MP) (H : Hp) (cs : Cells) : Prop where
  len : cs.length = m.c.length
  at_ : ∀ (i : Nat) (a : Addr), m.c[i]? = some (some a) → ∃ c, cs[i]? = some c ∧ CeR w m H a c ∧ (H a).isSome = true
  live : ∀ (i : Nat) (c : Cell), cs[i]? = some c → c ≠ .dead → ∃ a, m.c[i]? = some (some a)
  inj : ∀ (i j : Nat) (a : Addr), m.c[i]? = some (some a) → m.c[j]? = some (some a) → i = j
  res : ∀ a ∈ m.z, (H a).isSome = true ∧ some a ∉ m.c
structure SloR (w : Wd) (m : MP) (H : Hp) (σ : L2.St) (sl : Slots) : Prop where
  len : sl.length = σ.length
  at_ : ∀ (i : Nat) (v : Val), sl[i]? = some (some v) → ∃ u, σ[i]? = some (some u) ∧ AR w m H v u
theorem SloR.mon {w : Wd} {m m' : MP} {H H' : Hp} (e : Mon m H m' H') (at_ : ∀ (i : Nat) (o : Option Addr), m.c[i]? = some o → m'.c[i]? = some o ∨ m'.c[i]? = some none) {σ : L2.St} {sl : Slots} (h : SloR w m H σ sl) : SloR w m' H' σ sl :=
  ⟨h.len, fun i v q => let ⟨u, a, b⟩ := h.at_ i v q; ⟨u, a, b.mon e at_⟩⟩
theorem SloR.ext {w : Wd} {m m' : MP} {H H' : Hp} (e : Ext m H m' H') {σ : L2.St} {sl : Slots} (h : SloR w m H σ sl) : SloR w m' H' σ sl := h.mon e.mon e.at_
theorem SloR.set {w : Wd} {m : MP} {H : Hp} {σ : L2.St} {sl : Slots} (h : SloR w m H σ sl) {i : Nat} {v : Val} {u : V} (r : AR w m H v u) : SloR w m H (σ.set i (some u)) (sl.set i (some v)) :=
  ⟨by simpa using h.len, fun j x q => by
    by_cases e : i = j
    · subst e
      by_cases z : i < sl.length
      · rw [List.getElem?_set_self z] at q
        cases q
        exact ⟨u, List.getElem?_set_self (by rw [← h.len]; exact z), r⟩
      · rw [List.getElem?_eq_none (by simpa using z)] at q; cases q
    · rw [List.getElem?_set_ne e] at q ⊢
      exact h.at_ j x q⟩
end Ps

set_option maxHeartbeats 1000000
/-! PsSat: what a run promises of the heap. -/
namespace Ps
open PySem L2

/-- an exception: its class, its fields -/
def XR (w : Wd) (m : MP) (H : Hp) (x : Val) (c : Value) (d : Option Addr) : Prop :=
  ∃ (n : Str) (ks : List Str) (vs : List Val) (C : Addr), x = .exc n ks vs ∧ w.mg n = some (.ref C) ∧ c = .ref C ∧
    ((ks = [] ∧ vs = [] ∧ d = none) ∨ ∃ (dd : Addr) (us : List V), d = some dd ∧ ks.length = us.length ∧ H dd = some (.xd (ks.zip us)) ∧ ¬ m.has dd ∧ VRs w m H vs us)

/-- r run from (m, H): what is wanted of its value, of its exception -/
def Sat {α : Type} (w : Wd) (Ew : XK) (r : R α) (m : MP) (H : Hp) (Q : α → Cells → MP → Hp → Prop) : Prop :=
  match r with
  | .ok a cs => ∀ m' H', Ext m H m' H' → CsR w m' H' cs → Q a cs m' H'
  | .ex x cs => ∀ c d m' H', Ext m H m' H' → CsR w m' H' cs → XR w m' H' x c d → Ew c d H'
  | .stuck => False
theorem Sat.ext {α : Type} {w : Wd} {Ew : XK} {r : R α} {m m' : MP} {H H' : Hp} {Q : α → Cells → MP → Hp → Prop} (h : Sat w Ew r m H Q) (e : Ext m H m' H') : Sat w Ew r m' H' Q := by
  cases r with
  | ok a cs => exact fun m2 H2 e2 c => h m2 H2 (e.trans e2) c
  | ex x cs => exact fun c d m2 H2 e2 cc xr => h c d m2 H2 (e.trans e2) cc xr
  | stuck => exact h
theorem Sat.mono {α : Type} {w : Wd} {Ew Ew' : XK} {r : R α} {m : MP} {H : Hp} {Q Q' : α → Cells → MP → Hp → Prop} (h : Sat w Ew r m H Q) (f : ∀ a cs m' H', Ext m H m' H' → CsR w m' H' cs → Q a cs m' H' → Q' a cs m' H') (g : ∀ c d H', Ew c d H' → Ew' c d H') : Sat w Ew' r m H Q' := by
  cases r with
  | ok a cs => exact fun m2 H2 e2 c => f a cs m2 H2 e2 c (h m2 H2 e2 c)
  | ex x cs => exact fun c d m2 H2 e2 cc xr => g c d H2 (h c d m2 H2 e2 cc xr)
  | stuck => exact h
/-- what a run of two parts is: the first part's end leads to the second's -/
theorem Sat.bind {α β : Type} {w : Wd} {Ew : XK} {r : R α} {f : α → Cells → R β} {m : MP} {H : Hp} {Q : β → Cells → MP → Hp → Prop} (h : Sat w Ew (r.bind f) m H Q) : Sat w Ew r m H fun a cs m' H' => Sat w Ew (f a cs) m' H' Q := by
  cases r with
  | ok a cs => exact fun m2 H2 e2 c => Sat.ext (r := f a cs) h e2
  | ex x cs => exact h
  | stuck => exact h

/-! ### new objects, changed cells -/
theorem CsR.free {w : Wd} {m : MP} {H : Hp} {cs : Cells} (h : CsR w m H cs) {p : Addr} (n : H p = none) : ¬ m.has p := fun z => by
  rcases z with z | z
  · obtain ⟨i, hi⟩ := List.mem_iff_getElem?.mp z
    obtain ⟨c, _, _, q⟩ := h.at_ i p hi
    rw [n] at q; cases q
  · have q := (h.res p z).1
    rw [n] at q; cases q
theorem Ext.alloc {m : MP} {H : Hp} {p : Addr} {o : HO} (n : H p = none) (np : ¬ m.has p) : Ext m H m (upd H p o) :=
  ⟨fun a u h _ => by rw [upd_ne (ne_of_none h n)]; exact h, Nat.le_refl _, fun _ _ h => .inl h, fun _ h => .inl h, rfl, fun a h => upd_ne fun z => np (.inr (by rw [← z]; exact h))⟩
theorem VRs.paired {w : Wd} {m m' : MP} {H H' : Hp} (e : Mon m H m' H') {kvs : List (Key × Val)} {lvs : List (Key × V)} (h : Paired (fun (p : Key × Val) (q : Key × V) => p.1 = q.1 ∧ VR w m H p.2 q.2) kvs lvs) :
    Paired (fun (p : Key × Val) (q : Key × V) => p.1 = q.1 ∧ VR w m' H' p.2 q.2) kvs lvs := Paired.mapP h fun _ _ z => ⟨z.1, z.2.mon e⟩
theorem CeR.mon {w : Wd} {m m' : MP} {H H' : Hp} (e : Mon m H m' H') {a : Addr} {c : Cell} (h : CeR w m H a c) (s : H' a = H a) : CeR w m' H' a c := by
  cases c with
  | list xs => obtain ⟨ys, h1, h2⟩ := h; exact ⟨ys, by rw [s]; exact h1, h2.mon e⟩
  | dict kvs => obtain ⟨ys, h1, h2⟩ := h; exact ⟨ys, by rw [s]; exact h1, VRs.paired e h2⟩
  | dead => trivial
/-- the cells stay, the heap changes elsewhere -/
theorem CsR.mon {w : Wd} {m : MP} {z' : List Addr} {H H' : Hp} {cs : Cells} (h : CsR w m H cs) (e : Mon m H ⟨m.c, z'⟩ H') (k : ∀ a, some a ∈ m.c → H' a = H a) (r : ∀ a ∈ z', (H' a).isSome = true ∧ some a ∉ m.c) : CsR w ⟨m.c, z'⟩ H' cs := by
  refine ⟨h.len, fun i a q => ?_, h.live, h.inj, r⟩
  obtain ⟨c, h1, h2, h3⟩ := h.at_ i a q
  have s := k a (List.mem_of_getElem? q)
  exact ⟨c, h1, h2.mon e s, by rw [s]; exact h3⟩
theorem CsR.alloc {w : Wd} {m : MP} {H : Hp} {cs : Cells} (h : CsR w m H cs) {p : Addr} {o : HO} (n : H p = none) : CsR w m (upd H p o) cs := by
  have np := h.free n
  refine h.mon (z' := m.z) (Ext.alloc n np).mon (fun a q => upd_ne fun z => np (.inl (by rw [← z]; exact q))) fun a q => ⟨?_, (h.res a q).2⟩
  rw [upd_ne fun z => np (.inr (by rw [← z]; exact q))]
  exact (h.res a q).1
/-- a new cell of ours -/
theorem Ext.own {m : MP} {H : Hp} {p : Addr} {o : HO} (n : H p = none) (np : ¬ m.has p) : Ext m H ⟨m.c ++ [some p], m.z⟩ (upd H p o) :=
  ⟨fun a u h _ => by rw [upd_ne (ne_of_none h n)]; exact h, by simp, fun i u h => .inl (by rw [List.getElem?_append_left (List.getElem?_eq_some_iff.mp h).1]; exact h), fun a h => by
    rcases h with q | q
    · rcases List.mem_append.mp q with q | q
      · exact .inl (.inl q)
      · have e : a = p := by simpa using q
        exact .inr (by rw [e]; exact n)
    · exact .inl (.inr q), rfl, fun a h => upd_ne fun z => np (.inr (by rw [← z]; exact h))⟩
theorem CsR.own {w : Wd} {m : MP} {H : Hp} {cs : Cells} (h : CsR w m H cs) {p : Addr} {o : HO} {c : Cell} (n : H p = none) (r : CeR w ⟨m.c ++ [some p], m.z⟩ (upd H p o) p c) : CsR w ⟨m.c ++ [some p], m.z⟩ (upd H p o) (cs ++ [c]) := by
  have np' := h.free n
  have np : some p ∉ m.c := fun z => np' (.inl z)
  refine ⟨by simp [h.len], fun i a q => ?_, fun i c' q nd => ?_, fun i j a q1 q2 => ?_, fun a q => ?_⟩
  · by_cases hi : i < m.c.length
    · have q : (m.c ++ [some p])[i]? = some (some a) := q
      rw [List.getElem?_append_left hi] at q
      obtain ⟨c, h1, h2, h3⟩ := h.at_ i a q
      have ne : a ≠ p := fun z => by rw [z, n] at h3; cases h3
      exact ⟨c, by rw [List.getElem?_append_left (by rw [h.len]; exact hi)]; exact h1, h2.mon (Ext.own n np').mon (upd_ne ne), by rw [upd_ne ne]; exact h3⟩
    · have hl : i < (m.c ++ [some p]).length := (List.getElem?_eq_some_iff.mp q).1
      have hi2 : i = m.c.length := by simp at hl; omega
      subst hi2
      have ea : p = a := by simpa using q
      subst ea
      exact ⟨c, by rw [← h.len]; simp, r, by rw [upd_same]; rfl⟩
  · by_cases hi : i < cs.length
    · rw [List.getElem?_append_left hi] at q
      obtain ⟨a, z⟩ := h.live i c' q nd
      exact ⟨a, by show (m.c ++ [some p])[i]? = _; rw [List.getElem?_append_left (by rw [← h.len]; exact hi)]; exact z⟩
    · have hl : i < (cs ++ [c]).length := (List.getElem?_eq_some_iff.mp q).1
      have hi2 : i = cs.length := by simp at hl; omega
      exact ⟨p, by rw [hi2, h.len]; simp⟩
  · have q1 : (m.c ++ [some p])[i]? = some (some a) := q1
    have q2 : (m.c ++ [some p])[j]? = some (some a) := q2
    by_cases hi : i < m.c.length <;> by_cases hj : j < m.c.length
    · rw [List.getElem?_append_left hi] at q1
      rw [List.getElem?_append_left hj] at q2
      exact h.inj i j a q1 q2
    · rw [List.getElem?_append_left hi] at q1
      have hl : j < (m.c ++ [some p]).length := (List.getElem?_eq_some_iff.mp q2).1
      have e : j = m.c.length := by simp at hl; omega
      subst e
      have ea : p = a := by simpa using q2
      subst ea
      exact absurd (List.mem_of_getElem? q1) np
    · rw [List.getElem?_append_left hj] at q2
      have hl : i < (m.c ++ [some p]).length := (List.getElem?_eq_some_iff.mp q1).1
      have e : i = m.c.length := by simp at hl; omega
      subst e
      have ea : p = a := by simpa using q1
      subst ea
      exact absurd (List.mem_of_getElem? q2) np
    · have hl : i < (m.c ++ [some p]).length := (List.getElem?_eq_some_iff.mp q1).1
      have hl2 : j < (m.c ++ [some p]).length := (List.getElem?_eq_some_iff.mp q2).1
      simp at hl hl2
      omega
  · have ne : a ≠ p := fun z => np' (.inr (by rw [← z]; exact q))
    refine ⟨by rw [upd_ne ne]; exact (h.res a q).1, fun z => ?_⟩
    rcases List.mem_append.mp z with z | z
    · exact (h.res a q).2 z
    · exact ne (by simpa using z)
/-- a cell of ours changes -/
theorem Ext.write {m : MP} {H : Hp} {i : Nat} {a : Addr} {o : HO} (q : m.c[i]? = some (some a)) (nz : a ∉ m.z) : Ext m H m (upd H a o) :=
  ⟨fun b u h n => by rw [upd_ne (fun z => n (.inl (by rw [z]; exact List.mem_of_getElem? q)))]; exact h, Nat.le_refl _, fun _ _ h => .inl h, fun _ h => .inl h, rfl, fun b h => upd_ne fun z => nz (by rw [← z]; exact h)⟩
theorem CsR.nz {w : Wd} {m : MP} {H : Hp} {cs : Cells} (h : CsR w m H cs) {i : Nat} {a : Addr} (q : m.c[i]? = some (some a)) : a ∉ m.z := fun z => (h.res a z).2 (List.mem_of_getElem? q)
theorem CsR.write {w : Wd} {m : MP} {H : Hp} {cs : Cells} (h : CsR w m H cs) {i : Nat} {a : Addr} {o : HO} {c : Cell} (q : m.c[i]? = some (some a)) (r : CeR w m (upd H a o) a c) : CsR w m (upd H a o) (cs.set i c) := by
  refine ⟨by simp [h.len], fun j b z => ?_, fun j c' z nd => ?_, h.inj, fun b z => ?_⟩
  · by_cases e : i = j
    · subst e
      rw [q] at z; cases z
      have hi : i < cs.length := by rw [h.len]; exact (List.getElem?_eq_some_iff.mp q).1
      exact ⟨c, List.getElem?_set_self hi, r, by rw [upd_same]; rfl⟩
    · obtain ⟨c0, h1, h2, h3⟩ := h.at_ j b z
      have ne : b ≠ a := fun y => e (h.inj i j a q (by rw [← y]; exact z))
      exact ⟨c0, by rw [List.getElem?_set_ne e]; exact h1, h2.mon (Ext.write q (h.nz q)).mon (upd_ne ne), by rw [upd_ne ne]; exact h3⟩
  · by_cases e : i = j
    · subst e; exact ⟨a, q⟩
    · rw [List.getElem?_set_ne e] at z
      exact h.live j c' z nd
  · have ne : b ≠ a := fun y => h.nz q (by rw [← y]; exact z)
    exact ⟨by rw [upd_ne ne]; exact (h.res b z).1, (h.res b z).2⟩
end Ps

set_option maxHeartbeats 1000000
/-! PsOps: operators by values. -/
namespace Ps
open PySem L2

section
variable {w : Wd} {m : MP} {H : Hp} {cs : Cells} {Ew : XK} {Q : VK}
/-- what is wanted of a value -/
abbrev QE (w : Wd) (Q : VK) : Val → Cells → MP → Hp → Prop := fun v _ m' H' => ∀ u, AR w m' H' v u → Q u H'
theorem sat_at {v : Val} {u : V} (c : CsR w m H cs) (s : Sat w Ew (.ok v cs) m H (QE w Q)) (r : AR w m H v u) : Q u H := s m H (Ext.refl _ _) c u r
theorem sat_lst {zs : List Val} {ys : List V} (c : CsR w m H cs) (s : Sat w Ew (.ok (.lst zs) cs) m H (QE w Q)) (r : VRs w m H zs ys) (p : Addr) (n : H p = none) : Q (.ref p) (upd H p (.lst ys)) :=
  s m _ (Ext.alloc n (c.free n)) (c.alloc n) (.ref p) (.val (.lst upd_same (c.free n) (r.ext (Ext.alloc n (c.free n)))))
theorem sat_tup {zs : List Val} {ys : List V} (c : CsR w m H cs) (s : Sat w Ew (.ok (.tup zs) cs) m H (QE w Q)) (r : VRs w m H zs ys) (p : Addr) (n : H p = none) : Q (.ref p) (upd H p (.tup ys)) :=
  s m _ (Ext.alloc n (c.free n)) (c.alloc n) (.ref p) (.val (.tup (.inl ⟨.inl upd_same, c.free n⟩) (r.ext (Ext.alloc n (c.free n)))))

/-! ### reading -/
theorem AR.int {i : Int} {u : V} (h : AR w m H (.int i) u) : u = .int i := by
  cases h with | val h => cases h; rfl
theorem AR.str {x : Str} {u : V} (h : AR w m H (.str x) u) : u = .str x := by
  cases h with | val h => cases h; rfl
theorem AR.bl {x : Bool} {u : V} (h : AR w m H (.bl x) u) : u = .bl x := by
  cases h with | val h => cases h; rfl
theorem AR.non {u : V} (h : AR w m H .non u) : u = .non := by
  cases h with | val h => cases h; rfl
theorem AR.tup {xs : List Val} {u : V} (h : AR w m H (.tup xs) u) : ∃ a ys, u = .ref a ∧ RdT w.K m H a ys ∧ VRs w m H xs ys := by
  cases h with | val h => cases h with | tup r t => exact ⟨_, _, rfl, r, t⟩
theorem cell_list (c : CsR w m H cs) {i : Nat} {xs : List Val} {u : V} (e : cs[i]? = some (.list xs)) (h : AR w m H (.ref i) u) : ∃ a ys, u = .ref a ∧ m.c[i]? = some (some a) ∧ H a = some (.lst ys) ∧ VRs w m H xs ys := by
  obtain ⟨a, z⟩ := c.live i _ e (by simp)
  cases h with
  | val h => cases h
  | dead h => rw [z] at h; cases h
  | @ref i a' h =>
    rw [z] at h; cases h
    obtain ⟨c', e', r, _⟩ := c.at_ i a z
    rw [e] at e'; cases e'
    obtain ⟨ys, h1, h2⟩ := r
    exact ⟨a, ys, rfl, z, h1, h2⟩
theorem cell_dict (c : CsR w m H cs) {i : Nat} {kvs : List (Key × Val)} {u : V} (e : cs[i]? = some (.dict kvs)) (h : AR w m H (.ref i) u) :
    ∃ a lvs, u = .ref a ∧ m.c[i]? = some (some a) ∧ H a = some (.dK lvs) ∧ Paired (fun (p : Key × Val) (q : Key × V) => p.1 = q.1 ∧ VR w m H p.2 q.2) kvs lvs := by
  obtain ⟨a, z⟩ := c.live i _ e (by simp)
  cases h with
  | val h => cases h
  | dead h => rw [z] at h; cases h
  | @ref i a' h =>
    rw [z] at h; cases h
    obtain ⟨c', e', r, _⟩ := c.at_ i a z
    rw [e] at e'; cases e'
    obtain ⟨ys, h1, h2⟩ := r
    exact ⟨a, ys, rfl, z, h1, h2⟩
theorem listW_at (c : CsR w m H cs) {v : Val} {xs : List Val} {u : V} (e : listW cs v = some xs) (h : AR w m H v u) : ∃ a ys, u = .ref a ∧ H a = some (.lst ys) ∧ VRs w m H xs ys := by
  cases v with
  | lst zs =>
    cases e
    cases h with | val h => cases h with | lst r n t => exact ⟨_, _, rfl, r, t⟩
  | ref i =>
    unfold listW at e
    cases q : cs[i]? with
    | none => simp [q] at e
    | some ce =>
      cases ce with
      | list zs =>
        simp [q] at e; subst e
        obtain ⟨a, ys, h1, _, h2, h3⟩ := cell_list c q h
        exact ⟨a, ys, h1, h2, h3⟩
      | dict _ => simp [q] at e
      | dead => simp [q] at e
  | _ => cases e
theorem listOf_at (c : CsR w m H cs) {v : Val} {xs : List Val} {u : V} (e : listOf cs v = some xs) (h : AR w m H v u) : ∃ a ys, u = .ref a ∧ SqL w.K H a ys ∧ VRs w m H xs ys := by
  cases v with
  | lst zs =>
    cases e
    cases h with | val h => cases h with | lst r n t => exact ⟨_, _, rfl, SqL.of r, t⟩
  | fro zs =>
    cases e
    cases h with | val h => cases h with | fro r t => exact ⟨_, _, rfl, r.sq, t⟩
  | ref i =>
    unfold listOf at e
    cases q : cs[i]? with
    | none => simp [q] at e
    | some ce =>
      cases ce with
      | list zs =>
        simp [q] at e; subst e
        obtain ⟨a, ys, h1, _, h2, h3⟩ := cell_list c q h
        exact ⟨a, ys, h1, SqL.of h2, h3⟩
      | dict _ => simp [q] at e
      | dead => simp [q] at e
  | _ => cases e
theorem seqOf_at (c : CsR w m H cs) {v : Val} {xs : List Val} {u : V} (e : seqOf cs v = some xs) (h : AR w m H v u) : ∃ a ys, u = .ref a ∧ (SqL w.K H a ys ∨ SqT w.K H a ys) ∧ VRs w m H xs ys := by
  cases v with
  | tup zs =>
    cases e
    obtain ⟨a, ys, rfl, r, t⟩ := h.tup
    exact ⟨a, ys, rfl, .inr r.sq, t⟩
  | lst zs => obtain ⟨a, ys, h1, h2, h3⟩ := listOf_at c (v := .lst zs) e h; exact ⟨a, ys, h1, .inl h2, h3⟩
  | fro zs => obtain ⟨a, ys, h1, h2, h3⟩ := listOf_at c (v := .fro zs) e h; exact ⟨a, ys, h1, .inl h2, h3⟩
  | ref i => obtain ⟨a, ys, h1, h2, h3⟩ := listOf_at c (v := .ref i) e h; exact ⟨a, ys, h1, .inl h2, h3⟩
  | _ => cases e
theorem seqT_of {cs : Cells} {v : Val} {xs : List Val} (e : seqT v = some xs) : seqOf cs v = some xs := by
  cases v <;> first | cases e; rfl | cases e
theorem truth_at (c : CsR w m H cs) {v : Val} {b : Bool} {u : V} (e : truth cs v = some b) (h : AR w m H v u) : TruV w.K u H b := by
  cases v with
  | non => cases e; rw [h.non]; rfl
  | bl x => cases e; rw [h.bl]; rfl
  | int i => cases e; rw [h.int]; rfl
  | str x =>
    simp only [truth] at e
    split at e
    · cases e; rw [h.str]; exact ⟨by assumption, rfl⟩
    · cases e
  | tup xs =>
    cases e
    obtain ⟨a, ys, rfl, r, t⟩ := h.tup
    refine .inr (.inl ⟨ys, r.sq, ?_⟩)
    cases t <;> rfl
  | lst xs =>
    simp only [truth, Option.map_eq_some_iff] at e
    obtain ⟨ys, e1, rfl⟩ := e
    obtain ⟨a, zs, rfl, r, t⟩ := listOf_at c e1 h
    refine .inl ⟨zs, r, ?_⟩
    cases t <;> rfl
  | fro xs =>
    simp only [truth, Option.map_eq_some_iff] at e
    obtain ⟨ys, e1, rfl⟩ := e
    obtain ⟨a, zs, rfl, r, t⟩ := listOf_at c e1 h
    refine .inl ⟨zs, r, ?_⟩
    cases t <;> rfl
  | ref i =>
    simp only [truth, Option.map_eq_some_iff] at e
    obtain ⟨ys, e1, rfl⟩ := e
    obtain ⟨a, zs, rfl, r, t⟩ := listOf_at c e1 h
    refine .inl ⟨zs, r, ?_⟩
    cases t <;> rfl
  | _ => simp [truth, listOf] at e

mutual
theorem datOf_at : ∀ {v : Val} {d : PyData} {u : V}, datOf v = some d → VR w m H v u → Dp w.K H u d
  | .non, _, _, e, h => by cases e; cases h; exact .non
  | .bl b, _, _, e, h => by cases e; cases h; exact .bl b
  | .int b, _, _, e, h => by cases e; cases h; exact .int b
  | .str b, _, _, e, h => by cases e; cases h; exact .str b
  | .tup xs, _, _, e, h => by
    simp only [datOf, Option.map_eq_some_iff] at e
    obtain ⟨ds, e1, rfl⟩ := e
    cases h with | tup r t => exact .tup r.sq (datsOf_at e1 t)
  | .lst xs, _, _, e, h => by
    simp only [datOf, Option.map_eq_some_iff] at e
    obtain ⟨ds, e1, rfl⟩ := e
    cases h with | lst r n t => exact .lst (SqL.of r) (datsOf_at e1 t)
  | .fro xs, _, _, e, h => by
    simp only [datOf, Option.map_eq_some_iff] at e
    obtain ⟨ds, e1, rfl⟩ := e
    cases h with | fro r t => exact .lst r.sq (datsOf_at e1 t)
  | .emp, _, _, e, _ => by simp [datOf] at e
  | .ref _, _, _, e, _ => by simp [datOf] at e
  | .fn _, _, _, e, _ => by simp [datOf] at e
  | .ty _, _, _, e, _ => by simp [datOf] at e
  | .exc _ _ _, _, _, e, _ => by simp [datOf] at e
theorem datsOf_at : ∀ {vs : List Val} {ds : List PyData} {us : List V}, datsOf vs = some ds → VRs w m H vs us → DpAll w.K H us ds
  | [], _, _, e, h => by cases e; cases h; exact .nil
  | v :: vs, _, _, e, h => by
    cases h with
    | cons h1 h2 =>
      simp only [datsOf] at e
      split at e
      · rename_i d ds e1 e2
        cases e
        exact .cons (datOf_at e1 h1) (datsOf_at e2 h2)
      · cases e
end
theorem datAt_at (c : CsR w m H cs) {v : Val} {d : PyData} {u : V} (e : datAt cs v = some d) (h : AR w m H v u) : Dp w.K H u d := by
  cases v with
  | ref i =>
    unfold datAt at e
    cases q : cs[i]? with
    | none => simp [q] at e
    | some ce =>
      cases ce with
      | list zs =>
        simp only [q, Option.map_eq_some_iff] at e
        obtain ⟨ds, e1, rfl⟩ := e
        obtain ⟨a, ys, rfl, _, h2, h3⟩ := cell_list c q h
        exact .lst (SqL.of h2) (datsOf_at e1 h3)
      | dict _ => simp [q] at e
      | dead => simp [q] at e
  | _ => exact datOf_at (by simpa [datAt] using e) (h.tree rfl)
end

/-! ### + -/
section
variable {X : Cx} {m : MP} {H : Hp} {cs : Cells} {Ew : XK} {Q : VK}
def Cx.wd (X : Cx) : Wd := ⟨X.K, X.mg⟩
def rAddA (K : PySem.W.Frag) : R2 := fun x y H Q => rI0 (fun i j => .int (i + j)) x y H Q ∨ ((∃ i j, x = .str i ∧ y = .str j ∧ i.length + j.length ≤ sizeLine ∧ Q (.str (i ++ j)) H) ∨ (rCatA K x y H Q ∨ rCat x y H Q))
theorem op_addA : OpR X (binaryOp .Add) (rAddA X.K) := op_add.or (op_add_str.or (op_catA.or op_cat))
theorem addV_ok {x y : Val} {u v : V} (c : CsR (Cx.wd X) m H cs) (rx : AR (Cx.wd X) m H x u) (ry : AR (Cx.wd X) m H y v) (s : Sat (Cx.wd X) Ew (addV x y cs) m H (QE (Cx.wd X) Q)) : rAddA X.K u v H Q := by
  have lists : ∀ {x y : Val} {u v : V}, AR (Cx.wd X) m H x u → AR (Cx.wd X) m H y v → Sat (Cx.wd X) Ew (match listW cs x, listW cs y with
    | some xs, some ys => if xs.length + ys.length ≤ sizeLine then R.ok (.lst (xs ++ ys)) cs else .stuck
    | _, _ => .stuck) m H (QE (Cx.wd X) Q) → rAddA X.K u v H Q := fun {x y u v} rx ry s => by
    split at s
    · rename_i xs ys e1 e2
      split at s
      · rename_i hl
        obtain ⟨a, us, rfl, h1, t1⟩ := listW_at c e1 rx
        obtain ⟨b, vs, rfl, h2, t2⟩ := listW_at c e2 ry
        exact .inr (.inr (.inr ⟨a, b, us, vs, rfl, rfl, h1, h2, by rw [← t1.length, ← t2.length]; exact hl, sat_lst c s (t1.append t2)⟩))
      · exact s.elim
    · exact s.elim
  unfold addV at s
  split at s
  · rename_i i j
    rw [rx.int, ry.int]
    exact .inl ⟨i, j, rfl, rfl, sat_at c s (.val (.int _))⟩
  · rename_i i j
    split at s
    · rw [rx.str, ry.str]
      exact .inr (.inl ⟨i, j, rfl, rfl, by assumption, sat_at c s (.val (.str _))⟩)
    · exact s.elim
  · rename_i xs ys
    split at s
    · rename_i hl
      obtain ⟨a, us, rfl, h1, t1⟩ := rx.tup
      obtain ⟨b, vs, rfl, h2, t2⟩ := ry.tup
      refine .inr (.inr (.inl ⟨a, b, us, vs, rfl, rfl, h1.sq, h2.sq, by rw [← t1.length, ← t2.length]; exact hl, fun e => ?_, fun _ e => ?_, fun _ _ => sat_tup c s (t1.append t2)⟩))
      · subst e
        cases t1
        exact sat_at c s (.val (.tup h2 t2))
      · subst e
        cases t2
        rw [List.append_nil] at s
        exact sat_at c s (.val (.tup h1 t1))
    · exact s.elim
  · exact lists rx ry s

/-! ### the other operators -/
/-- text * int -/
def strRep (x : Str) (n : Int) : Option Str := if n < 1 then (if -(2 ^ 63) ≤ n then some Str.empty else none) else if n = 1 ∨ x.length = 0 then (if n < 2 ^ 63 then some x else none)
    else if x.length * n.toNat ≤ sizeLine then some ⟨(List.replicate n.toNat x.cps).foldl (· ++ ·) #[]⟩ else none
theorem rep_size {α : Type} (a : Array α) : ∀ (k : Nat) (b : Array α), ((List.replicate k a).foldl (· ++ ·) b).size = b.size + k * a.size
  | 0, b => by simp
  | k + 1, b => by
    rw [List.replicate_succ, List.foldl_cons, rep_size a k]
    rw [Array.size_append, Nat.succ_mul]
    omega
theorem op_mulS : OpR X (binaryOp .Mult) (fun x y H Q => ∃ a n b, x = .str a ∧ y = .int n ∧ strRep a n = some b ∧ Q (.str b) H) := by
  intro pins s σ H x y v u Q I rx ry h
  obtain ⟨a, n, b, rfl, rfl, e, q⟩ := h
  obtain ⟨t, rfl⟩ := rx
  obtain ⟨t2, rfl⟩ := ry
  unfold strRep at e
  have fin : ∀ t', EP X pins σ Q (.str b t') { s with toks := s.toks + 1 } := fun t' => ⟨.str b, H, I.tok _, ⟨_, rfl⟩, q⟩
  split at e
  · split at e
    · cases e
      exact PySem.P.mul_str_none (by assumption) (by omega) (fin _)
    · cases e
  · rename_i h1
    split at e
    · rename_i h2
      split at e
      · cases e
        have hk : (n == 1 || a.length == 0) = true := by
          rcases h2 with h2 | h2 <;> simp [h2]
        refine PySem.P.mul_str (by rw [Bool.or_eq_false_iff]; exact ⟨decide_eq_false (by omega), decide_eq_false (by omega)⟩) (fun _ z => by rw [hk] at z; cases z) (fun _ z => by rw [hk] at z; cases z) ?_
        rw [if_neg h1, if_pos hk]
        exact ⟨.str a, H, I, ⟨_, rfl⟩, q⟩
      · cases e
    · rename_i h2
      split at e
      · rename_i h3
        cases e
        have hk : (n == 1 || a.length == 0) = false := by
          rw [Bool.or_eq_false_iff]
          exact ⟨by simpa using fun z => h2 (.inl z), by simpa using fun z => h2 (.inr z)⟩
        have ha : 0 < a.length := Nat.pos_of_ne_zero fun z => h2 (.inr z)
        have hn : n.toNat ≤ sizeLine := Nat.le_trans (Nat.le_mul_of_pos_left _ ha) h3
        have hz : sizeLine ≤ 2 ^ 60 := by decide
        have hb : (a.length : Int) * n ≤ 2 ^ 60 := by
          have : ((a.length * n.toNat : Nat) : Int) ≤ 2 ^ 60 := by omega
          rw [Int.natCast_mul, Int.toNat_of_nonneg (by omega)] at this
          exact this
        refine PySem.P.mul_str (by rw [Bool.or_eq_false_iff]; exact ⟨decide_eq_false (by omega), decide_eq_false (by omega)⟩) (fun _ _ => ?_) (fun _ _ => ?_) ?_
        · have := Int.le_ediv_of_mul_le (a := (a.length : Int)) (b := 2 ^ 63 - 1) (c := n) (by omega) (by omega)
          omega
        · show decide (_ > _) = false
          exact decide_eq_false (by omega)
        · rw [if_neg h1, if_neg (by rw [hk]; simp)]
          refine ⟨?_, fin _⟩
          show ((List.replicate n.toNat a.cps).foldl (· ++ ·) #[]).size ≤ sizeLine
          rw [rep_size, Nat.mul_comm]
          have : a.length = a.cps.size := rfl
          simpa [this] using h3
      · cases e
def rMulA : R2 := fun x y H Q => (rI CMulW (fun i j => .int (i * j)) x y H Q ∨ rRep x y H Q) ∨ ∃ a n b, x = .str a ∧ y = .int n ∧ strRep a n = some b ∧ Q (.str b) H
theorem op_mulA : OpR X (binaryOp .Mult) rMulA := (op_mulW.or op_rep).or op_mulS
theorem mulV_ok {x y : Val} {u v : V} (c : CsR (Cx.wd X) m H cs) (rx : AR (Cx.wd X) m H x u) (ry : AR (Cx.wd X) m H y v) (s : Sat (Cx.wd X) Ew (mulV x y cs) m H (QE (Cx.wd X) Q)) : rMulA u v H Q := by
  unfold mulV at s
  split at s
  · rename_i i j
    split at s
    · rename_i hf
      rw [rx.int, ry.int]
      exact .inl (.inl ⟨i, j, rfl, rfl, (show i.natAbs.log2 + j.natAbs.log2 < 1000000 from of_decide_eq_true hf), sat_at c s (.val (.int _))⟩)
    · exact s.elim
  · rename_i x n
    have key : ∀ b, strRep x n = some b → Sat (Cx.wd X) Ew (.ok (.str b) cs) m H (QE (Cx.wd X) Q) → rMulA u v H Q := fun b e s => by
      rw [rx.str, ry.int]
      exact .inr ⟨x, n, b, rfl, rfl, e, sat_at c s (.val (.str _))⟩
    split at s
    · split at s
      · exact key _ (by unfold strRep; simp only [*, if_true]) s
      · exact s.elim
    · split at s
      · split at s
        · exact key _ (by unfold strRep; simp only [*, if_true, if_false]) s
        · exact s.elim
      · split at s
        · exact key _ (by unfold strRep; simp only [*, if_true, if_false]) s
        · exact s.elim
  · rename_i xs k
    split at s
    · rename_i hf
      rw [ry.int]
      cases rx with
      | val h =>
        cases h with
        | lst h1 n t => exact .inl (.inr ⟨_, k, _, rfl, rfl, h1, by omega, hf.2.1, by rw [← t.length]; exact hf.2.2, sat_lst c s (t.rep _)⟩)
    · exact s.elim
  · exact s.elim
def bopPy : Bop → Operator
  | .add => .Add
  | .sub => .Sub
  | .mul => .Mult
  | .mod => .Mod
  | .fdiv => .FloorDiv
  | .pow => .Pow
def rBop (K : PySem.W.Frag) : Bop → R2
  | .add => rAddA K
  | .sub => rI0 fun i j => .int (i - j)
  | .mul => rMulA
  | .mod => rI (fun _ j => j ≠ 0) fun i j => .int (i.fmod j)
  | .fdiv => rI CDivW fun i j => .int (i / j)
  | .pow => rI CPow fun i j => .int (i ^ j.toNat)
theorem op_bop : ∀ op : Bop, OpR X (binaryOp (bopPy op)) (rBop X.K op)
  | .add => op_addA
  | .sub => op_sub
  | .mul => op_mulA
  | .mod => op_modN
  | .fdiv => op_fdivW
  | .pow => op_pow
theorem binop_ok {op : Bop} {x y : Val} {u v : V} (c : CsR (Cx.wd X) m H cs) (rx : AR (Cx.wd X) m H x u) (ry : AR (Cx.wd X) m H y v) (s : Sat (Cx.wd X) Ew (binop op x y cs) m H (QE (Cx.wd X) Q)) : rBop X.K op u v H Q := by
  cases op with
  | add => exact addV_ok c rx ry s
  | mul => exact mulV_ok c rx ry s
  | sub =>
    simp only [binop] at s
    split at s
    · rw [rx.int, ry.int]; exact ⟨_, _, rfl, rfl, sat_at c s (.val (.int _))⟩
    · exact s.elim
  | mod =>
    simp only [binop] at s
    split at s
    · split at s
      · rw [rx.int, ry.int]; exact ⟨_, _, rfl, rfl, by assumption, sat_at c s (.val (.int _))⟩
      · exact s.elim
    · exact s.elim
  | fdiv =>
    simp only [binop] at s
    split at s
    · split at s
      · rw [rx.int, ry.int]; exact ⟨_, _, rfl, rfl, by assumption, sat_at c s (.val (.int _))⟩
      · exact s.elim
    · exact s.elim
  | pow =>
    simp only [binop] at s
    split at s
    · split at s
      · rw [rx.int, ry.int]; exact ⟨_, _, rfl, rfl, by assumption, sat_at c s (.val (.int _))⟩
      · exact s.elim
    · exact s.elim

/-! ### comparisons -/
def rIsA (neg : Bool) : R2 := fun x y H Q => (y = .non ∧ Q (.bl (if neg then !decide (x = .non) else decide (x = .non))) H) ∨ ∃ a b, x = .bl a ∧ y = .bl b ∧ Q (.bl (if neg then !decide (a = b) else decide (a = b))) H
theorem op_isA : OpR X (compareOp .Is) (rIsA false) := op_isN.or op_is_bl
theorem op_isNotA : OpR X (compareOp .IsNot) (rIsA true) := op_notN.or op_isnot_bl
theorem isV_ok {x y : Val} {u v : V} {neg b : Bool} (c : CsR (Cx.wd X) m H cs) (rx : AR (Cx.wd X) m H x u) (ry : AR (Cx.wd X) m H y v) (e : isV x y cs = some b) (q : Q (.bl (if neg then !b else b)) H) : rIsA neg u v H Q := by
  unfold isV at e
  split at e
  · have ev := ry.non
    subst ev
    refine .inl ⟨rfl, ?_⟩
    have key : decide (u = V.non) = b := by
      split at e
      · rename_i i
        split at e
        · rename_i kvs q1
          cases e
          obtain ⟨a, _, rfl, _⟩ := cell_dict c q1 rx
          rfl
        · rename_i xs q1
          cases e
          obtain ⟨a, _, rfl, _⟩ := cell_list c q1 rx
          rfl
        · cases e
      · rename_i nr
        cases e
        cases rx with
        | val h => cases h <;> rfl
        | ref => exact absurd rfl (nr _)
        | dead => exact absurd rfl (nr _)
    rw [key]
    exact q
  · rename_i b'
    split at e
    · rename_i a
      cases e
      rw [rx.bl, ry.bl]
      exact .inr ⟨a, b', rfl, rfl, q⟩
    · cases e
  · cases e
def rInT (K : PySem.W.Frag) (neg : Bool) : R2 := fun x y H Q => ∃ d ds, Dp K H x d ∧ Dp K H y (.tuple ds) ∧ SeqAt.shaped d = true ∧ SeqAt.shaped (.tuple ds) = true ∧ Q (.bl (if neg then !(ds.any fun z => PyData.eqv z d) else ds.any fun z => PyData.eqv z d)) H
theorem op_inT (hu : X.A.units + 65 < cLine) : OpR X (compareOp .In) (rInT X.K false) := by
  intro pins s σ H x y v u Q I rx ry h
  obtain ⟨d, ds, hd, he, sd, se, q⟩ := h
  obtain ⟨as, r1⟩ := Dp.reads I d x v hd rx
  obtain ⟨bs, r2⟩ := Dp.reads I (.tuple ds) y u he ry
  exact SeqAt.in_tuple_reads r2 r1 (SeqAt.canLay_of_shaped se) (SeqAt.canLay_of_shaped sd) (PyProof.Rows.room_in_shaped sd hu) ⟨.bl _, H, I, rfl, q⟩
theorem op_notInT (hu : X.A.units + 65 < cLine) : OpR X (compareOp .NotIn) (rInT X.K true) := by
  intro pins s σ H x y v u Q I rx ry h
  obtain ⟨d, ds, hd, he, sd, se, q⟩ := h
  obtain ⟨as, r1⟩ := Dp.reads I d x v hd rx
  obtain ⟨bs, r2⟩ := Dp.reads I (.tuple ds) y u he ry
  exact SeqAt.notIn_tuple_reads r2 r1 (SeqAt.canLay_of_shaped se) (SeqAt.canLay_of_shaped sd) (PyProof.Rows.room_in_shaped sd hu) ⟨.bl _, H, I, rfl, q⟩
def rInA (K : PySem.W.Frag) (neg : Bool) : R2 := fun x y H Q => (∃ i j, x = .str i ∧ y = .str j ∧ Q (.bl (if neg then !(!(Builtin.Str.occurrences j i 0 j.length 1).isEmpty) else (!(Builtin.Str.occurrences j i 0 j.length 1).isEmpty))) H) ∨
  ((∃ d ds, Dp K H x d ∧ Dp K H y (.list ds) ∧ SeqAt.shaped d = true ∧ SeqAt.shaped (.list ds) = true ∧ Q (.bl (if neg then !(ds.any fun z => PyData.eqv z d) else ds.any fun z => PyData.eqv z d)) H) ∨ rInT K neg x y H Q)
theorem op_inA (hu : X.A.units + 65 < cLine) : OpR X (compareOp .In) (rInA X.K false) := op_in_str.or ((op_inD hu).or (op_inT hu))
theorem op_notInA (hu : X.A.units + 65 < cLine) : OpR X (compareOp .NotIn) (rInA X.K true) := op_notin_str.or ((op_notInD hu).or (op_notInT hu))
theorem inV_ok {x y : Val} {u v : V} {neg b : Bool} (c : CsR (Cx.wd X) m H cs) (rx : AR (Cx.wd X) m H x u) (ry : AR (Cx.wd X) m H y v) (e : inV' x y cs = some b) (q : Q (.bl (if neg then !b else b)) H) : rInA X.K neg u v H Q := by
  unfold inV' at e
  split at e
  · split at e
    · cases e
      rw [rx.str, ry.str]
      exact .inl ⟨_, _, rfl, rfl, q⟩
    · cases e
  · split at e
    · rename_i d ds e1 e2
      split at e
      · rename_i hs
        cases e
        rw [Bool.and_eq_true] at hs
        exact .inr (.inl ⟨d, ds, datAt_at c e1 rx, datAt_at c e2 ry, hs.1, hs.2, q⟩)
      · cases e
    · rename_i d ds e1 e2
      split at e
      · rename_i hs
        cases e
        rw [Bool.and_eq_true] at hs
        exact .inr (.inr ⟨d, ds, datAt_at c e1 rx, datAt_at c e2 ry, hs.1, hs.2, q⟩)
      · cases e
    · cases e
theorem eqVal_ok {x y : Val} {u v : V} {b : Bool} (c : CsR (Cx.wd X) m H cs) (rx : AR (Cx.wd X) m H x u) (ry : AR (Cx.wd X) m H y v) (e : eqVal cs x y = some b) :
    (∃ d e, Dp X.K H u d ∧ Dp X.K H v e ∧ SeqAt.shaped d = true ∧ SeqAt.shaped e = true ∧ PyData.eqv d e = b) ∨ ∃ i j, u = .str i ∧ v = .str j ∧ b = decide (V.str i = V.str j) := by
  unfold eqVal at e
  split at e
  · rename_i b' q
    cases e
    unfold eqStr at q
    split at q
    · rename_i i j
      cases q
      exact .inr ⟨i, j, rx.str, ry.str, by simp⟩
    · cases q
  split at e
  · rename_i d d' e1 e2
    split at e
    · rename_i hs
      cases e
      rw [Bool.and_eq_true] at hs
      exact .inl ⟨d, d', datAt_at c e1 rx, datAt_at c e2 ry, hs.1, hs.2, rfl⟩
    · cases e
  · cases e
def copPy : Cop → CmpOp
  | .eq => .Eq
  | .ne => .NotEq
  | .lt => .Lt
  | .le => .LtE
  | .gt => .Gt
  | .ge => .GtE
  | .is_ => .Is
  | .isNot => .IsNot
  | .isIn => .In
  | .notIn => .NotIn
def rCop (K : PySem.W.Frag) : Cop → R2
  | .eq => fun x y H Q => rEqD K x y H Q ∨ rEq x y H Q
  | .ne => fun x y H Q => rNeD K x y H Q ∨ rNe x y H Q
  | .lt => rI0 fun i j => .bl (decide (i < j))
  | .le => rI0 fun i j => .bl (decide (i ≤ j))
  | .gt => rI0 fun i j => .bl (decide (j < i))
  | .ge => rI0 fun i j => .bl (decide (j ≤ i))
  | .is_ => rIsA false
  | .isNot => rIsA true
  | .isIn => rInA K false
  | .notIn => rInA K true
theorem op_cop (hu : X.A.units + 65 < cLine) : ∀ op : Cop, OpR X (compareOp (copPy op)) (rCop X.K op)
  | .eq => (op_eqD (by omega)).or op_eq
  | .ne => (op_neD (by omega)).or op_ne
  | .lt => op_lt
  | .le => op_le
  | .gt => op_gt
  | .ge => op_ge
  | .is_ => op_isA
  | .isNot => op_isNotA
  | .isIn => op_inA hu
  | .notIn => op_notInA hu
theorem sat_of {α : Type} {w : Wd} {o : Option α} {f : α → Cells → R Val} {P : Val → Cells → MP → Hp → Prop} (s : Sat w Ew ((R.of o cs).bind f) m H P) : ∃ a, o = some a ∧ Sat w Ew (f a cs) m H P := by
  cases o with
  | none => exact s.elim
  | some a => exact ⟨a, rfl, s⟩
theorem icmp_ok {f : Int → Int → Bool} {x y : Val} {u v : V} (c : CsR (Cx.wd X) m H cs) (rx : AR (Cx.wd X) m H x u) (ry : AR (Cx.wd X) m H y v) (s : Sat (Cx.wd X) Ew (icmp f x y cs) m H (QE (Cx.wd X) Q)) : rI0 (fun i j => .bl (f i j)) u v H Q := by
  unfold icmp at s
  split at s
  · rw [rx.int, ry.int]; exact ⟨_, _, rfl, rfl, sat_at c s (.val (.bl _))⟩
  · exact s.elim
theorem cmpop_ok {op : Cop} {x y : Val} {u v : V} (c : CsR (Cx.wd X) m H cs) (rx : AR (Cx.wd X) m H x u) (ry : AR (Cx.wd X) m H y v) (s : Sat (Cx.wd X) Ew (cmpop op x y cs) m H (QE (Cx.wd X) Q)) : rCop X.K op u v H Q := by
  cases op with
  | eq =>
    obtain ⟨b, e, s⟩ := sat_of s
    rcases eqVal_ok c rx ry e with ⟨d, d', h1, h2, h3, h4, rfl⟩ | ⟨i, j, rfl, rfl, rfl⟩
    · exact .inl ⟨d, d', h1, h2, h3, h4, sat_at c s (.val (.bl _))⟩
    · exact .inr ⟨rfl, sat_at c s (.val (.bl _))⟩
  | ne =>
    obtain ⟨b, e, s⟩ := sat_of s
    rcases eqVal_ok c rx ry e with ⟨d, d', h1, h2, h3, h4, rfl⟩ | ⟨i, j, rfl, rfl, rfl⟩
    · exact .inl ⟨d, d', h1, h2, h3, h4, sat_at c s (.val (.bl _))⟩
    · exact .inr ⟨rfl, sat_at c s (.val (.bl _))⟩
  | lt => exact icmp_ok c rx ry s
  | le => exact icmp_ok c rx ry s
  | gt => exact icmp_ok c rx ry s
  | ge => exact icmp_ok c rx ry s
  | is_ =>
    obtain ⟨b, e, s⟩ := sat_of s
    exact isV_ok (neg := false) c rx ry e (sat_at c s (.val (.bl _)))
  | isNot =>
    obtain ⟨b, e, s⟩ := sat_of s
    exact isV_ok (neg := true) c rx ry e (sat_at c s (.val (.bl _)))
  | isIn =>
    obtain ⟨b, e, s⟩ := sat_of s
    exact inV_ok (neg := false) c rx ry e (sat_at c s (.val (.bl _)))
  | notIn =>
    obtain ⟨b, e, s⟩ := sat_of s
    exact inV_ok (neg := true) c rx ry e (sat_at c s (.val (.bl _)))
theorem cmpop_bl {op : Cop} {x y : Val} : ∀ {z : Val} {cs' : Cells}, cmpop op x y cs = .ok z cs' → ∃ b, z = .bl b := by
  intro z cs' e
  cases op with
  | eq => cases q : eqVal cs x y with | none => simp [cmpop, q] at e | some b => simp [cmpop, q] at e; exact ⟨_, e.1.symm⟩
  | ne => cases q : eqVal cs x y with | none => simp [cmpop, q] at e | some b => simp [cmpop, q] at e; exact ⟨_, e.1.symm⟩
  | lt => simp only [cmpop, icmp] at e; split at e <;> simp at e; exact ⟨_, e.1.symm⟩
  | le => simp only [cmpop, icmp] at e; split at e <;> simp at e; exact ⟨_, e.1.symm⟩
  | gt => simp only [cmpop, icmp] at e; split at e <;> simp at e; exact ⟨_, e.1.symm⟩
  | ge => simp only [cmpop, icmp] at e; split at e <;> simp at e; exact ⟨_, e.1.symm⟩
  | is_ => cases q : isV x y cs with | none => simp [cmpop, q] at e | some b => simp [cmpop, q] at e; exact ⟨_, e.1.symm⟩
  | isNot => cases q : isV x y cs with | none => simp [cmpop, q] at e | some b => simp [cmpop, q] at e; exact ⟨_, e.1.symm⟩
  | isIn => cases q : inV' x y cs with | none => simp [cmpop, q] at e | some b => simp [cmpop, q] at e; exact ⟨_, e.1.symm⟩
  | notIn => cases q : inV' x y cs with | none => simp [cmpop, q] at e | some b => simp [cmpop, q] at e; exact ⟨_, e.1.symm⟩
end
end Ps

set_option maxHeartbeats 1000000
/-! PsExpr: expressions. -/
namespace Ps
open PySem L2

/-- a reading by a run -/
def TSem (w : Wd) (W : WX) (cl : Cl) (e : E) : TE := fun σ H Q => ∃ sl m cs, SloR w m H σ sl ∧ CsR w m H cs ∧ Sat w (fun c d H' => W c d σ H') (ev cl e sl cs) m H (QE w Q)
def TTst (w : Wd) (W : WX) (cl : Cl) (e : E) : TT := fun σ H Q => ∃ sl m cs, SloR w m H σ sl ∧ CsR w m H cs ∧ Sat w (fun c d H' => W c d σ H') (tst cl e sl cs) m H fun b _ _ H' => Q b H'
def TArg (w : Wd) (W : WX) (cl : Cl) (es : List E) : TA := fun σ H Q => ∃ sl m cs, SloR w m H σ sl ∧ CsR w m H cs ∧ Sat w (fun c d H' => W c d σ H') (evs cl es sl cs) m H fun vs _ m' H' => ∀ us, ARs w m' H' vs us → Q us H'
abbrev SE (X : Cx) (W : WX) (cl : Cl) (e : Expr) (e' : E) : Prop := PE X e (TSem (Cx.wd X) W cl e')
abbrev ST (X : Cx) (W : WX) (cl : Cl) (e : Expr) (e' : E) : Prop := PT X e (TTst (Cx.wd X) W cl e')
abbrev SA (X : Cx) (W : WX) (cl : Cl) (es : List Expr) (es' : List E) : Prop := PA X es (TArg (Cx.wd X) W cl es')
theorem _root_.L2.PE.weak {X : Cx} {e : Expr} {t t' : TE} (h : PE X e t) (f : ∀ σ H Q, t' σ H Q → t σ H Q) : PE X e t' := ⟨fun pins s σ H Q I q => h.run pins s σ H Q I (f σ H Q q)⟩
theorem _root_.L2.PT.weak {X : Cx} {e : Expr} {t t' : TT} (h : PT X e t) (f : ∀ σ H Q, t' σ H Q → t σ H Q) : PT X e t' := ⟨fun pins s σ H Q I q => h.run pins s σ H Q I (f σ H Q q)⟩
theorem _root_.L2.PW.weak {X : Cx} {e : Expr} {t t' : TT} (h : PW X e t) (f : ∀ σ H Q, t' σ H Q → t σ H Q) : PW X e t' := ⟨fun wh pins s σ H Q I q => h.run wh pins s σ H Q I (f σ H Q q)⟩
theorem _root_.L2.PA.weak {X : Cx} {es : List Expr} {t t' : TA} (h : PA X es t) (f : ∀ σ H Q, t' σ H Q → t σ H Q) : PA X es t' := ⟨fun pos pins s σ H Q I q => h.run pos pins s σ H Q I (f σ H Q q)⟩
theorem _root_.L2.PS.weak {X : Cx} {s : Stmt} {t t' : TS} (h : PS X s t) (f : ∀ D σ H, t' D σ H → t D σ H) : PS X s t' := ⟨fun pins s σ H D I q => h.run pins s σ H D I (f D σ H q)⟩
theorem _root_.L2.PSs.weak {X : Cx} {s : List Stmt} {t t' : TS} (h : PSs X s t) (f : ∀ D σ H, t' D σ H → t D σ H) : PSs X s t' := ⟨fun pins s σ H D I q => h.run pins s σ H D I (f D σ H q)⟩
/-- two rules of one expression -/
theorem _root_.L2.PE.or {X : Cx} {e : Expr} {t t' : TE} (h : PE X e t) (h' : PE X e t') : PE X e (fun σ H Q => t σ H Q ∨ t' σ H Q) := ⟨fun pins s σ H Q I q => q.elim (h.run pins s σ H Q I) (h'.run pins s σ H Q I)⟩

section
variable {X : Cx} {W : WX} {cl : Cl} {a b c : Expr} {a' b' c' : E} {pos : Pos}

/-- the first of some parts -/
theorem first {w : Wd} {W : WX} {cl : Cl} {e : E} {σ : L2.St} {H : Hp} {sl : Slots} {m : MP} {cs : Cells} {f : Val → Cells → R Val} {P : Val → Cells → MP → Hp → Prop} {Q1 : VK} (hs : SloR w m H σ sl) (hc : CsR w m H cs)
    (s : Sat w (fun c d H' => W c d σ H') ((ev cl e sl cs).bind f) m H P)
    (k : ∀ x cs1 m1 H1 u, Ext m H m1 H1 → SloR w m1 H1 σ sl → CsR w m1 H1 cs1 → AR w m1 H1 x u → Sat w (fun c d H' => W c d σ H') (f x cs1) m1 H1 P → Q1 u H1) : TSem w W cl e σ H Q1 :=
  ⟨sl, m, cs, hs, hc, (Sat.bind s).mono (fun x cs1 m1 H1 e1 c1 s1 u r => k x cs1 m1 H1 u e1 (hs.ext e1) c1 r s1) fun _ _ _ z => z⟩

theorem s_const {e : Expr} {v : Val} {u : V} (h : PE X e (tC u)) (r : ∀ m H, VR (Cx.wd X) m H v u) : SE X W cl e (.const v) := h.weak fun σ H Q ⟨sl, m, cs, hs, hc, s⟩ => sat_at hc s (.val (r m H))
theorem s_var {i : Nat} {x : Str} (hN : X.N[i]? = some x) (hv : Vis X.env.scope x) (hd : (x == ("__debug__" : Str)) = false) (hcd : (x == ("__classdict__" : Str)) = false) : SE X W cl (.Name x pos) (.var i) := by
  refine (pe_var hN hv hd hcd).weak fun σ H Q ⟨sl, m, cs, hs, hc, s⟩ => ?_
  simp only [ev] at s
  split at s
  · rename_i v q
    obtain ⟨u, q1, r⟩ := hs.at_ i v q
    exact ⟨u, q1, sat_at hc s r⟩
  · exact s.elim
theorem s_bin {op : Bop} (ha : SE X W cl a a') (hb : SE X W cl b b') : SE X W cl (.BinOp a (bopPy op) b pos) (.bin op a' b') := by
  refine (pe_op (op_bop op) ha hb).weak fun σ H Q ⟨sl, m, cs, hs, hc, s⟩ => ?_
  simp only [ev] at s
  exact first hs hc s fun x cs1 m1 H1 u e1 hs1 c1 r1 s1 => first hs1 c1 s1 fun y cs2 m2 H2 v e2 hs2 c2 r2 s2 => binop_ok c2 (r1.ext e2) r2 s2
theorem s_neg (ha : SE X W cl a a') : SE X W cl (.UnaryOp .USub a pos) (.neg a') := by
  refine (pe_un un_neg ha).weak fun σ H Q ⟨sl, m, cs, hs, hc, s⟩ => ?_
  simp only [ev] at s
  refine first hs hc s fun x cs1 m1 H1 u e1 hs1 c1 r1 s1 => ?_
  split at s1
  · rw [r1.int]; exact ⟨_, rfl, sat_at c1 s1 (.val (.int _))⟩
  · exact s1.elim
theorem s_cmp {op : Cop} (hu : X.A.units + 65 < cLine) (hm : behindInMarks (copPy op) b = false) (ha : SE X W cl a a') (hb : SE X W cl b b') : SE X W cl (.Compare a [copPy op] [b] pos) (.cmp op a' b') := by
  refine (pe_cmpR (op_cop hu op) ha hb hm).weak fun σ H Q ⟨sl, m, cs, hs, hc, s⟩ => ?_
  simp only [ev] at s
  exact first hs hc s fun x cs1 m1 H1 u e1 hs1 c1 r1 s1 => first hs1 c1 s1 fun y cs2 m2 H2 v e2 hs2 c2 r2 s2 => cmpop_ok c2 (r1.ext e2) r2 s2
/-- a comparison's outcome, then more -/
theorem cmp_then {op : Cop} {x y : Val} {u v : V} {m : MP} {H : Hp} {cs : Cells} {Ew : XK} {Q : Bool → Hp → Prop} {f : Val → Cells → R Val} {P : Val → Cells → MP → Hp → Prop} (c : CsR (Cx.wd X) m H cs) (rx : AR (Cx.wd X) m H x u) (ry : AR (Cx.wd X) m H y v)
    (s : Sat (Cx.wd X) Ew ((cmpop op x y cs).bind f) m H P) (k : ∀ b cs1 m1 H1, Ext m H m1 H1 → CsR (Cx.wd X) m1 H1 cs1 → Sat (Cx.wd X) Ew (f (.bl b) cs1) m1 H1 P → Q b H1) : rCop X.K op u v H fun z H1 => ∃ b, z = .bl b ∧ Q b H1 := by
  refine cmpop_ok (Q := fun z H1 => ∃ b, z = .bl b ∧ Q b H1) (Ew := Ew) c rx ry ?_
  cases q : cmpop op x y cs with
  | stuck => rw [q] at s; exact s.elim
  | ex x' cs' => rw [q] at s; exact s
  | ok z cs' =>
    rw [q] at s
    obtain ⟨b, rfl⟩ := cmpop_bl q
    intro m' H' e' c' u' r'
    rw [r'.bl]
    exact ⟨b, rfl, k b cs' m' H' e' c' (Sat.ext s e')⟩
theorem s_chain {op op' : Cop} (hu : X.A.units + 65 < cLine) (hm : lastMarks [copPy op, copPy op'] [b, c] = false) (ha : SE X W cl a a') (hb : SE X W cl b b') (hc' : SE X W cl c c') : SE X W cl (.Compare a [copPy op, copPy op'] [b, c] pos) (.chain op op' a' b' c') := by
  refine (pe_chain (op_cop hu op) (op_cop hu op') ha hb hc' hm).weak fun σ H Q ⟨sl, m, cs, hs, hc, s⟩ => ?_
  simp only [ev] at s
  refine first hs hc s fun x cs1 m1 H1 u e1 hs1 c1 r1 s1 => first hs1 c1 s1 fun y cs2 m2 H2 v e2 hs2 c2 r2 s2 => ?_
  refine cmp_then c2 (r1.ext e2) r2 s2 fun k cs3 m3 H3 e3 c3 s3 => ?_
  cases k with
  | true => exact first (hs2.ext e3) c3 s3 fun z cs4 m4 H4 w4 e4 hs4 c4 r4 s4 => cmpop_ok c4 ((r2.ext e3).ext e4) r4 s4
  | false => exact sat_at c3 s3 (.val (.bl false))
theorem sat_truth {w : Wd} {m : MP} {H : Hp} {cs : Cells} {Ew : XK} {x : Val} {u : V} {f : Bool → R Val} {P : Val → Cells → MP → Hp → Prop} (c : CsR w m H cs) (r : AR w m H x u) (s : Sat w Ew (match truth cs x with
    | some true => f true
    | some false => f false
    | none => .stuck) m H P) : ∃ k, TruV w.K u H k ∧ Sat w Ew (f k) m H P := by
  cases q : truth cs x with
  | none => rw [q] at s; exact s.elim
  | some k => rw [q] at s; exact ⟨k, truth_at c q r, by cases k <;> exact s⟩
theorem s_and {rest : List Expr} (ha : SE X W cl a a') (hb : SE X W cl (.BoolOp .And (b :: rest) pos) b') : SE X W cl (.BoolOp .And (a :: b :: rest) pos) (.and_ a' b') := by
  refine (pe_andT ha hb).weak fun σ H Q ⟨sl, m, cs, hs, hc, s⟩ => ?_
  simp only [ev] at s
  refine first hs hc s fun x cs1 m1 H1 u e1 hs1 c1 r1 s1 => ?_
  obtain ⟨k, t, s2⟩ := sat_truth (f := fun k => match k with | true => ev cl b' sl cs1 | false => .ok x cs1) c1 r1 s1
  refine ⟨k, t, ?_⟩
  cases k with
  | true => exact ⟨sl, m1, cs1, hs1, c1, s2⟩
  | false => exact sat_at c1 s2 r1
theorem s_or {rest : List Expr} (ha : SE X W cl a a') (hb : SE X W cl (.BoolOp .Or (b :: rest) pos) b') : SE X W cl (.BoolOp .Or (a :: b :: rest) pos) (.or_ a' b') := by
  refine (pe_orT ha hb).weak fun σ H Q ⟨sl, m, cs, hs, hc, s⟩ => ?_
  simp only [ev] at s
  refine first hs hc s fun x cs1 m1 H1 u e1 hs1 c1 r1 s1 => ?_
  obtain ⟨k, t, s2⟩ := sat_truth (f := fun k => match k with | true => .ok x cs1 | false => ev cl b' sl cs1) c1 r1 s1
  refine ⟨k, t, ?_⟩
  cases k with
  | true => exact sat_at c1 s2 r1
  | false => exact ⟨sl, m1, cs1, hs1, c1, s2⟩
theorem s_one {op : BoolOp} (ha : SE X W cl a a') : SE X W cl (.BoolOp op [a] pos) a' := pe_one ha
theorem s_not (ha : SE X W cl a a') : SE X W cl (.UnaryOp .Not a pos) (.not_ a') := by
  refine (pe_notT ha).weak fun σ H Q ⟨sl, m, cs, hs, hc, s⟩ => ?_
  simp only [ev] at s
  refine first hs hc s fun x cs1 m1 H1 u e1 hs1 c1 r1 s1 => ?_
  cases q : truth cs1 x with
  | none => rw [q] at s1; exact s1.elim
  | some k => rw [q] at s1; exact ⟨k, truth_at c1 q r1, sat_at c1 s1 (.val (.bl _))⟩
theorem s_ite (hc' : ST X W cl c c') (ha : SE X W cl a a') (hb : SE X W cl b b') : SE X W cl (.IfExp c a b pos) (.ite c' a' b') := by
  refine (pe_ifExp hc' ha hb).weak fun σ H Q ⟨sl, m, cs, hs, hc, s⟩ => ?_
  simp only [ev] at s
  refine ⟨sl, m, cs, hs, hc, ?_⟩
  unfold tst
  cases q : ev cl c' sl cs with
  | stuck => rw [q] at s; exact s.elim
  | ex x cs' => rw [q] at s; exact s
  | ok x cs' =>
    rw [q] at s
    simp only [R.bind_ok] at s ⊢
    cases t : truth cs' x with
    | none => rw [t] at s; exact s.elim
    | some k =>
      rw [t] at s
      intro m1 H1 e1 c1
      cases k with
      | true => exact ⟨sl, m1, cs', hs.ext e1, c1, Sat.ext s e1⟩
      | false => exact ⟨sl, m1, cs', hs.ext e1, c1, Sat.ext s e1⟩

/-! ### tests -/
/-- a value as a test -/
theorem t_val {e : Expr} {e' : E} (h : SE X W cl e e') (he : ∀ whole, isTrue e X.env whole = (do let v ← whole; standAt e.pos; holding [v] (truthy v))) : ST X W cl e e' := by
  refine (pt_truth h he).weak fun σ H Q ⟨sl, m, cs, hs, hc, s⟩ => ?_
  refine ⟨sl, m, cs, hs, hc, ?_⟩
  refine (Sat.bind s).mono (fun x cs1 m1 H1 e1 c1 s1 u r => ?_) fun _ _ _ z => z
  cases q : truth cs1 x with
  | none => rw [q] at s1; exact s1.elim
  | some k => rw [q] at s1; exact ⟨k, truth_at c1 q r, s1 m1 H1 (Ext.refl _ _) c1⟩
theorem tst_bl {e : E} {sl : Slots} {cs : Cells} (h : ∀ v cs', ev cl e sl cs = .ok v cs' → ∃ b, v = .bl b) : tst cl e sl cs = (ev cl e sl cs).bind fun x cs => match x with | .bl b => .ok b cs | _ => .stuck := by
  unfold tst
  cases q : ev cl e sl cs with
  | stuck => rfl
  | ex x cs' => rfl
  | ok v cs' => obtain ⟨b, rfl⟩ := h v cs' q; rfl
theorem t_cmp {op : Cop} (hu : X.A.units + 65 < cLine) (hm : behindInMarks (copPy op) b = false) (ha : SE X W cl a a') (hb : SE X W cl b b') : ST X W cl (.Compare a [copPy op] [b] pos) (.cmp op a' b') := by
  refine (pt_cmpR (op_cop hu op) ha hb hm).weak fun σ H Q ⟨sl, m, cs, hs, hc, s⟩ => ?_
  unfold tst at s
  simp only [ev] at s
  have s' : Sat (Cx.wd X) (fun c d H' => W c d σ H') ((ev cl a' sl cs).bind fun x cs => (ev cl b' sl cs).bind fun y cs => (cmpop op x y cs).bind fun z cs => .ok z cs) m H (fun z _ _ H' => ∀ b, z = .bl b → Q b H') := by
    cases q : ev cl a' sl cs with
    | stuck => rw [q] at s; exact s.elim
    | ex x cs' => rw [q] at s; exact s
    | ok x cs1 =>
      rw [q] at s
      simp only [R.bind_ok] at s ⊢
      cases q2 : ev cl b' sl cs1 with
      | stuck => rw [q2] at s; exact s.elim
      | ex x cs' => rw [q2] at s; exact s
      | ok y cs2 =>
        rw [q2] at s
        simp only [R.bind_ok] at s ⊢
        cases q3 : cmpop op x y cs2 with
        | stuck => rw [q3] at s; exact s.elim
        | ex x cs' => rw [q3] at s; exact s
        | ok z cs3 =>
          rw [q3] at s
          simp only [R.bind_ok] at s ⊢
          obtain ⟨b, rfl⟩ := cmpop_bl q3
          intro m' H' e' c' b' eb
          cases eb
          exact s m' H' e' c'
  exact first hs hc s' fun x cs1 m1 H1 u e1 hs1 c1 r1 s1 => first hs1 c1 s1 fun y cs2 m2 H2 v e2 hs2 c2 r2 s2 => cmp_then c2 (r1.ext e2) r2 s2 fun k cs3 m3 H3 e3 c3 s3 => s3 m3 H3 (Ext.refl _ _) c3 k rfl
theorem t_not (ha : ST X W cl a a') : ST X W cl (.UnaryOp .Not a pos) (.not_ a') := by
  refine (pt_not ha).weak fun σ H Q ⟨sl, m, cs, hs, hc, s⟩ => ⟨sl, m, cs, hs, hc, ?_⟩
  unfold tst at s ⊢
  simp only [ev] at s
  cases q : ev cl a' sl cs with
  | stuck => rw [q] at s; exact s.elim
  | ex x cs' => rw [q] at s; exact s
  | ok x cs1 =>
    rw [q] at s
    simp only [R.bind_ok] at s ⊢
    cases t : truth cs1 x with
    | none => rw [t] at s; exact s.elim
    | some k => rw [t] at s; exact s
/-- and, or as tests: PW of the rest -/
abbrev SW (X : Cx) (W : WX) (cl : Cl) (e : Expr) (e' : E) : Prop := PW X e (TTst (Cx.wd X) W cl e')
theorem w_and1 (ha : ST X W cl a a') : SW X W cl (.BoolOp .And [a] pos) a' := pw_and1 ha
theorem w_or1 (ha : ST X W cl a a') : SW X W cl (.BoolOp .Or [a] pos) a' := pw_or1 ha
theorem w_and {rest : List Expr} (ha : ST X W cl a a') (hb : SW X W cl (.BoolOp .And (b :: rest) pos) b') : SW X W cl (.BoolOp .And (a :: b :: rest) pos) (.and_ a' b') := by
  refine (pw_and ha hb).weak fun σ H Q ⟨sl, m, cs, hs, hc, s⟩ => ⟨sl, m, cs, hs, hc, ?_⟩
  unfold tst at s ⊢
  simp only [ev] at s
  cases q : ev cl a' sl cs with
  | stuck => rw [q] at s; exact s.elim
  | ex x cs' => rw [q] at s; exact s
  | ok x cs1 =>
    rw [q] at s
    simp only [R.bind_ok] at s ⊢
    cases t : truth cs1 x with
    | none => rw [t] at s; exact s.elim
    | some k =>
      rw [t] at s
      intro m1 H1 e1 c1
      cases k with
      | true => exact ⟨sl, m1, cs1, hs.ext e1, c1, Sat.ext s e1⟩
      | false =>
        simp only [R.bind_ok] at s
        rw [t] at s
        exact s m1 H1 e1 c1
theorem w_or {rest : List Expr} (ha : ST X W cl a a') (hb : SW X W cl (.BoolOp .Or (b :: rest) pos) b') : SW X W cl (.BoolOp .Or (a :: b :: rest) pos) (.or_ a' b') := by
  refine (pw_or ha hb).weak fun σ H Q ⟨sl, m, cs, hs, hc, s⟩ => ⟨sl, m, cs, hs, hc, ?_⟩
  unfold tst at s ⊢
  simp only [ev] at s
  cases q : ev cl a' sl cs with
  | stuck => rw [q] at s; exact s.elim
  | ex x cs' => rw [q] at s; exact s
  | ok x cs1 =>
    rw [q] at s
    simp only [R.bind_ok] at s ⊢
    cases t : truth cs1 x with
    | none => rw [t] at s; exact s.elim
    | some k =>
      rw [t] at s
      intro m1 H1 e1 c1
      cases k with
      | false => exact ⟨sl, m1, cs1, hs.ext e1, c1, Sat.ext s e1⟩
      | true =>
        simp only [R.bind_ok] at s
        rw [t] at s
        exact s m1 H1 e1 c1

/-! ### arguments, displays -/
theorem a_nil : SA X W cl [] [] := pa_nil.weak fun σ H Q ⟨sl, m, cs, hs, hc, s⟩ => s m H (Ext.refl _ _) hc [] .nil
theorem a_cons {es : List Expr} {es' : List E} (ha : SE X W cl a a') (hr : SA X W cl es es') (hs : starEach (a :: es) X.env = (false, eval a X.env) :: starEach es X.env) : SA X W cl (a :: es) (a' :: es') := by
  refine (pa_cons ha hr hs).weak fun σ H Q ⟨sl, m, cs, hs, hc, s⟩ => ?_
  simp only [evs] at s
  refine ⟨sl, m, cs, hs, hc, (Sat.bind s).mono (fun x cs1 m1 H1 e1 c1 s1 u r => ?_) fun _ _ _ z => z⟩
  refine ⟨sl, m1, cs1, hs.ext e1, c1, (Sat.bind s1).mono (fun vs cs2 m2 H2 e2 c2 s2 us rs => ?_) fun _ _ _ z => z⟩
  exact s2 m2 H2 (Ext.refl _ _) c2 (u :: us) (.cons (r.ext e2) rs)
/-- the arguments, then more -/
theorem firsts {w : Wd} {W : WX} {cl : Cl} {es : List E} {σ : L2.St} {H : Hp} {sl : Slots} {m : MP} {cs : Cells} {f : List Val → Cells → R Val} {P : Val → Cells → MP → Hp → Prop} {Q1 : List V → Hp → Prop} (hs : SloR w m H σ sl) (hc : CsR w m H cs)
    (s : Sat w (fun c d H' => W c d σ H') ((evs cl es sl cs).bind f) m H P)
    (k : ∀ xs cs1 m1 H1 us, Ext m H m1 H1 → SloR w m1 H1 σ sl → CsR w m1 H1 cs1 → ARs w m1 H1 xs us → Sat w (fun c d H' => W c d σ H') (f xs cs1) m1 H1 P → Q1 us H1) : TArg w W cl es σ H Q1 :=
  ⟨sl, m, cs, hs, hc, (Sat.bind s).mono (fun x cs1 m1 H1 e1 c1 s1 u r => k x cs1 m1 H1 u e1 (hs.ext e1) c1 r s1) fun _ _ _ z => z⟩
theorem s_tup {es : List Expr} {es' : List E} {k : Nat} (h : SA X W cl es es') : SE X W cl (.Tuple es k pos) (.tup es') := by
  refine (pe_tup h).weak fun σ H Q ⟨sl, m, cs, hs, hc, s⟩ => ?_
  simp only [ev] at s
  refine firsts hs hc s fun xs cs1 m1 H1 us e1 hs1 c1 r1 s1 => ?_
  split at s1
  · rename_i hk
    rw [Bool.and_eq_true] at hk
    exact ⟨by rw [← r1.length]; exact of_decide_eq_true hk.2, sat_tup c1 s1 (r1.trees hk.1)⟩
  · exact s1.elim
theorem s_lst {es : List Expr} {es' : List E} (h : SA X W cl es es') : SE X W cl (.List es pos) (.lst es') := by
  refine (pe_lst h).weak fun σ H Q ⟨sl, m, cs, hs, hc, s⟩ => ?_
  simp only [ev] at s
  refine firsts hs hc s fun xs cs1 m1 H1 us e1 hs1 c1 r1 s1 => ?_
  split at s1
  · rename_i hk
    rw [Bool.and_eq_true] at hk
    exact ⟨by rw [← r1.length]; exact of_decide_eq_true hk.2, sat_lst c1 s1 (r1.trees hk.1)⟩
  · exact s1.elim
end
end Ps

set_option maxHeartbeats 1000000
/-! PsExpr2: items, slices, built-in calls. -/
namespace Ps
open PySem L2
section
variable {X : Cx} {W : WX} {cl : Cl} {a b c : Expr} {a' b' c' : E} {pos : Pos}

/-! ### items -/
theorem VRs.atI {w : Wd} {m : MP} {H : Hp} {xs : List Val} {us : List V} {i : Int} {x : Val} (h : VRs w m H xs us) (e : L2.atI xs i = some x) : ∃ u, L2.atI us i = some u ∧ VR w m H x u := by
  unfold L2.atI at e ⊢
  rw [← h.length]
  cases q : ixN xs.length i with
  | none => rw [q] at e; cases e
  | some j => rw [q] at e; exact h.get e
theorem pair_get {w : Wd} {m : MP} {H : Hp} {k : Key} : ∀ {kvs : List (Key × Val)} {lvs : List (Key × V)} {x : Val}, Paired (fun (p : Key × Val) (q : Key × V) => p.1 = q.1 ∧ VR w m H p.2 q.2) kvs lvs → getD kvs k = some x → ∃ u, valV lvs k = some u ∧ VR w m H x u
  | _, _, _, .nil, e => by simp [getD] at e
  | _, _, x, .cons (a := p) (b := q) (l₁ := r1) (l₂ := r2) ⟨h1, h2⟩ t, e => by
    by_cases z : p.1 = k
    · have e2 : p.2 = x := by simpa [getD, List.find?_cons, z] using e
      subst e2
      exact ⟨q.2, valV_pos (by rw [← h1]; exact z), h2⟩
    · have e2 : getD r1 k = some x := by simpa [getD, List.find?_cons, z] using e
      obtain ⟨u, e3, r⟩ := pair_get t e2
      exact ⟨u, by rw [valV_neg (by rw [← h1]; exact z)]; exact e3, r⟩
/-- two parts, with what they come to -/
theorem two {w : Wd} {W : WX} {cl : Cl} {ea eb : E} {σ : L2.St} {H : Hp} {sl : Slots} {m : MP} {cs : Cells} {f : Val → Val → Cells → R Val} {P : Val → Cells → MP → Hp → Prop} {Q2 : V → V → Hp → Prop} (hs : SloR w m H σ sl) (hc : CsR w m H cs)
    (s : Sat w (fun c d H' => W c d σ H') ((ev cl ea sl cs).bind fun x cs => (ev cl eb sl cs).bind fun y cs => f x y cs) m H P)
    (k : ∀ x y cs1 cs2, ev cl ea sl cs = .ok x cs1 → ev cl eb sl cs1 = .ok y cs2 → ∀ m2 H2 u v, CsR w m2 H2 cs2 → AR w m2 H2 x u → AR w m2 H2 y v → Sat w (fun c d H' => W c d σ H') (f x y cs2) m2 H2 P → Q2 u v H2) :
    TSem w W cl ea σ H fun u H1 => TSem w W cl eb σ H1 fun v H2 => Q2 u v H2 := by
  refine ⟨sl, m, cs, hs, hc, ?_⟩
  cases qa : ev cl ea sl cs with
  | stuck => rw [qa] at s; exact s.elim
  | ex x cs' => rw [qa] at s; exact s
  | ok x cs1 =>
    rw [qa] at s
    intro m1 H1 e1 c1 u ru
    refine ⟨sl, m1, cs1, hs.ext e1, c1, ?_⟩
    have s1 := Sat.ext s e1
    simp only [R.bind_ok] at s1
    cases qb : ev cl eb sl cs1 with
    | stuck => rw [qb] at s1; exact s1.elim
    | ex x cs' => rw [qb] at s1; exact s1
    | ok y cs2 =>
      rw [qb] at s1
      intro m2 H2 e2 c2 v rv
      exact k x y cs1 cs2 qa qb m2 H2 u v c2 (ru.ext e2) rv (Sat.ext s1 e2)
theorem sat_of2 {α : Type} {w : Wd} {m : MP} {H : Hp} {cs : Cells} {Ew : XK} {o : Option Val} {P : Val → Cells → MP → Hp → Prop} (s : Sat w Ew (R.of o cs) m H P) : ∃ a, o = some a ∧ Sat w Ew (.ok a cs) m H P := by
  cases o with
  | none => exact s.elim
  | some a => exact ⟨a, rfl, s⟩
theorem s_ix (hu : X.A.units + 65 < cLine) (hp : PlainIx b) (ha : SE X W cl a a') (hb : SE X W cl b b') : SE X W cl (.Subscript a b pos) (.ix a' b') := by
  refine ((pe_ix (IxR.or ix_list (IxR.or ix_tup ix_str)) ha hb hp).or (pe_dget (by omega) ha hb hp)).weak fun σ H Q ⟨sl, m, cs, hs, hc, s⟩ => ?_
  simp only [ev] at s
  by_cases hd : ∃ r k cs1 cs2, ev cl a' sl cs = .ok (.ref r) cs1 ∧ ev cl b' sl cs1 = .ok (.str k) cs2
  · obtain ⟨r, k, cs1, cs2, q1, q2⟩ := hd
    refine .inr (two hs hc s fun x y cs1' cs2' p1 p2 m2 H2 u v c2 ru rv s2 => ?_)
    rw [q1] at p1; cases p1
    rw [q2] at p2; cases p2
    simp only [ixV] at s2
    split at s2
    · rename_i kvs q3
      obtain ⟨z, e, s3⟩ := sat_of2 (α := Unit) s2
      obtain ⟨a, lvs, rfl, _, h2, h3⟩ := cell_dict c2 q3 ru
      obtain ⟨u2, e2, r2⟩ := pair_get h3 e
      rw [rv.str]
      refine ⟨a, u2, rfl, ?_, sat_at c2 s3 (.val r2)⟩
      have g := DGet.k (k := .inr k) h2
      rw [e2] at g
      exact g
    · exact s2.elim
  · refine .inl (two hs hc s fun x y cs1' cs2' p1 p2 m2 H2 u v c2 ru rv s2 => ?_)
    unfold ixV at s2
    split at s2
    · rename_i xs i
      obtain ⟨z, e, s3⟩ := sat_of2 (α := Unit) s2
      obtain ⟨a, ys, rfl, h1, t1⟩ := ru.tup
      obtain ⟨u2, e2, r2⟩ := t1.atI e
      rw [rv.int]
      exact .inr (.inl ⟨a, ys, i, u2, rfl, rfl, h1.sq, e2, sat_at c2 s3 (.val r2)⟩)
    · rename_i z i
      split at s2
      · rename_i hl
        obtain ⟨cc, e, s3⟩ := sat_of s2
        rw [ru.str, rv.int]
        exact .inr (.inr ⟨z, i, cc, rfl, rfl, hl, e, sat_at c2 s3 (.val (.str _))⟩)
      · exact s2.elim
    · exact absurd ⟨_, _, _, _, p1, p2⟩ hd
    · rename_i i _ _
      split at s2
      · rename_i xs e1
        obtain ⟨z, e, s3⟩ := sat_of2 (α := Unit) s2
        obtain ⟨a, ys, rfl, h1, t1⟩ := listOf_at c2 e1 ru
        obtain ⟨u2, e2, r2⟩ := t1.atI e
        rw [rv.int]
        exact .inl ⟨a, ys, _, u2, rfl, rfl, h1, e2, sat_at c2 s3 (.val r2)⟩
      · exact s2.elim
    · exact s2.elim

/-! ### slices -/
theorem VRs.cut {w : Wd} {m : MP} {H : Hp} {xs : List Val} {us : List V} (h : VRs w m H xs us) (lo hi : Option Int) : VRs w m H (cutL xs lo hi) (cutV us lo hi) := by
  unfold cutL cutV
  rw [← h.length]
  exact (h.drop _).take _
def rSlAll (K : PySem.W.Frag) : V → Option Int → Option Int → Hp → VK → Prop := fun x lo hi H Q => rSlL K x lo hi H Q ∨ (rSlA K x lo hi H Q ∨ rSlS x lo hi H Q)
theorem sl_all : SlR X (rSlAll X.K) := sl_list.or (sl_tupA.or sl_str)
theorem cutL_whole {xs : List Val} {lo hi : Option Int} (h : HT.sIx xs.length 0 lo = 0 ∧ HT.sIx xs.length xs.length hi = xs.length) : cutL xs lo hi = xs := by
  unfold cutL
  rw [h.1, h.2]
  simp
theorem sliceV_ok {x : Val} {u : V} {m : MP} {H : Hp} {cs : Cells} {Ew : XK} {Q : VK} {lo hi : Option Int} (c : CsR (Cx.wd X) m H cs) (rx : AR (Cx.wd X) m H x u) (s : Sat (Cx.wd X) Ew (sliceV x lo hi cs) m H (QE (Cx.wd X) Q)) : rSlAll X.K u lo hi H Q := by
  unfold sliceV at s
  split at s
  · rename_i xs
    obtain ⟨a, ys, rfl, h1, t1⟩ := rx.tup
    refine .inr (.inl ⟨a, ys, rfl, h1.sq, fun e => ?_, fun _ => sat_tup c s (t1.cut lo hi)⟩)
    rw [← t1.length] at e
    rw [cutL_whole e] at s
    exact sat_at c s (.val (.tup h1 t1))
  · rename_i z
    split at s
    · rw [rx.str]
      exact .inr (.inr ⟨z, rfl, by assumption, sat_at c s (.val (.str _))⟩)
    · exact s.elim
  · split at s
    · rename_i xs e1
      obtain ⟨a, ys, rfl, h1, t1⟩ := listOf_at c e1 rx
      exact .inl ⟨a, ys, rfl, h1, sat_lst c s (t1.cut lo hi)⟩
    · exact s.elim
/-- a part of a slice, and what it is told by -/
inductive PartOk (X : Cx) (W : WX) (cl : Cl) : Option Expr → E → Bool → Prop
  | none : PartOk X W cl none (.const .non) false
  | some {e : Expr} {e' : E} : SE X W cl e e' → PartOk X W cl (some e) e' true
def tPartOf (w : Wd) (W : WX) (cl : Cl) (e : E) : Bool → TO
  | false => tNoPart
  | true => tPart (TSem w W cl e)
theorem PartOk.po {o : Option Expr} {e : E} {p : Bool} (h : PartOk X W cl o e p) : PO X o (tPartOf (Cx.wd X) W cl e p) := by
  cases h with
  | none => exact po_none
  | some h => exact po_some h
theorem part_then {w : Wd} {W : WX} {cl : Cl} {e : E} {p : Bool} {σ : L2.St} {H : Hp} {sl : Slots} {m : MP} {cs : Cells} {f : Option Int → Cells → R Val} {P : Val → Cells → MP → Hp → Prop} {Q1 : Option Int → Hp → Prop} (hs : SloR w m H σ sl) (hc : CsR w m H cs) (hp : p = false → e = .const .non)
    (s : Sat w (fun c d H' => W c d σ H') ((ev cl e sl cs).bind fun x cs => (R.of (optI p x) cs).bind f) m H P)
    (k : ∀ i cs1 m1 H1, Ext m H m1 H1 → SloR w m1 H1 σ sl → CsR w m1 H1 cs1 → Sat w (fun c d H' => W c d σ H') (f i cs1) m1 H1 P → Q1 i H1) : tPartOf w W cl e p σ H Q1 := by
  cases p with
  | false =>
    rw [hp rfl] at s
    simp only [ev, R.bind_ok, optI, R.of_some] at s
    exact k none cs m H (Ext.refl _ _) hs hc s
  | true =>
    refine first hs hc s fun x cs1 m1 H1 u e1 hs1 c1 r1 s1 => ?_
    obtain ⟨i, e, s2⟩ := sat_of s1
    cases x with
    | int i => cases e; rw [r1.int]; exact ⟨i, rfl, k (some i) cs1 m1 H1 e1 hs1 c1 s2⟩
    | _ => cases e
theorem s_slice {lo hi : Option Expr} {l h : E} {p q : Bool} {p2 : Pos} (ha : SE X W cl a a') (hl : PartOk X W cl lo l p) (hh : PartOk X W cl hi h q) : SE X W cl (.Subscript a (.Slice lo hi none p2) pos) (.slice a' l h p q) := by
  refine (pe_slice sl_all ha hl.po hh.po).weak fun σ H Q ⟨sl, m, cs, hs, hc, s⟩ => ?_
  simp only [ev] at s
  refine first hs hc s fun x cs1 m1 H1 u e1 hs1 c1 r1 s1 => ?_
  refine part_then hs1 c1 (fun e => by subst e; cases hl; rfl) s1 fun i cs2 m2 H2 e2 hs2 c2 s2 => ?_
  refine part_then hs2 c2 (fun e => by subst e; cases hh; rfl) s2 fun j cs3 m3 H3 e3 hs3 c3 s3 => ?_
  exact sliceV_ok c3 ((r1.ext e2).ext e3) s3
end
end Ps

set_option maxHeartbeats 1000000
/-! PsPrim: built-in functions, methods of texts. -/
namespace Ps
open PySem L2
section
variable {X : Cx} {W : WX} {cl : Cl} {m : MP} {H : Hp} {cs : Cells} {Ew : XK} {Q : VK}
theorem ints_at {w : Wd} : ∀ {vs : List Val} {ns : List Int} {us : List V}, intsOf vs = some ns → VRs w m H vs us → us = ns.map V.int
  | [], _, _, e, h => by cases e; cases h; rfl
  | v :: vs, ns, _, e, h => by
    cases h with
    | cons h1 h2 =>
      cases v with
      | int i =>
        simp only [intsOf, Option.map_eq_some_iff] at e
        obtain ⟨ms, e1, rfl⟩ := e
        cases h1
        rw [ints_at e1 h2] <;> rfl
      | _ => simp [intsOf] at e
theorem strs_at {w : Wd} : ∀ {vs : List Val} {ns : List Str} {us : List V}, strsOf vs = some ns → VRs w m H vs us → us = ns.map V.str
  | [], _, _, e, h => by cases e; cases h; rfl
  | v :: vs, ns, _, e, h => by
    cases h with
    | cons h1 h2 =>
      cases v with
      | str i =>
        simp only [strsOf, Option.map_eq_some_iff] at e
        obtain ⟨ms, e1, rfl⟩ := e
        cases h1
        rw [strs_at e1 h2] <;> rfl
      | _ => simp [strsOf] at e
theorem bls_at {w : Wd} : ∀ {vs : List Val} {ns : List Bool} {us : List V}, blsOf vs = some ns → VRs w m H vs us → us = ns.map V.bl
  | [], _, _, e, h => by cases e; cases h; rfl
  | v :: vs, ns, _, e, h => by
    cases h with
    | cons h1 h2 =>
      cases v with
      | bl i =>
        simp only [blsOf, Option.map_eq_some_iff] at e
        obtain ⟨ms, e1, rfl⟩ := e
        cases h1
        rw [bls_at e1 h2] <;> rfl
      | _ => simp [blsOf] at e
theorem strs_vr {w : Wd} : ∀ ys : List Str, VRs w m H (ys.map .str) (ys.map V.str)
  | [] => .nil
  | y :: ys => .cons (.str y) (strs_vr ys)
theorem typeName_at {w : Wd} {v : Val} {t : String} {u : V} (e : typeName v = some t) (h : AR w m H v u) : TyX w.K H u (.type t) := by
  cases v with
  | non => cases e; rw [h.non]; exact .base .non
  | bl b => cases e; rw [h.bl]; exact .base (.bl b)
  | int b => cases e; rw [h.int]; exact .base (.int b)
  | str b => cases e; rw [h.str]; exact .base (.str b)
  | tup xs =>
    cases e
    obtain ⟨a, ys, rfl, r, _⟩ := h.tup
    rcases r with ⟨r | ⟨o, r⟩, _⟩ | ⟨o, its, n, h1, h2, _⟩
    · exact .base (.tup r)
    · exact .fTuple r
    · exact .kTuple h1 h2
  | lst xs =>
    cases e
    cases h with | val h => cases h with | lst r n t => exact .base (.lst r)
  | fro xs =>
    cases e
    cases h with
    | val h =>
      cases h with
      | fro r t =>
        rcases r with ⟨r | ⟨o, r⟩, _⟩ | ⟨o, its, n, h1, h2, _⟩
        · exact .base (.lst r)
        · exact .base (.frz r)
        · exact .kList h1 h2
  | emp =>
    cases e
    cases h with | val h => cases h with | emp r n => exact .base (.dK r)
  | _ => cases e
theorem instB_at {K : PySem.W.Frag} {t c : String} {b : Bool} {v : Val} (hv : typeName v = some t) (e : instB t c = some b) : PySem.W.kitOne K (.type t) (.type c) = some b := by
  have ht : t = "NoneType" ∨ t = "bool" ∨ t = "int" ∨ t = "str" ∨ t = "tuple" ∨ t = "list" ∨ t = "dict" := by
    cases v <;> simp [typeName] at hv <;> simp [← hv]
  unfold instB at e
  split at e
  · rename_i hc
    have hc' : c = "int" ∨ c = "str" ∨ c = "tuple" ∨ c = "list" ∨ c = "bool" ∨ c = "dict" := by simpa using hc
    cases e
    rcases ht with rfl | rfl | rfl | rfl | rfl | rfl | rfl <;> rcases hc' with rfl | rfl | rfl | rfl | rfl | rfl <;> exact kit_ty (by decide +kernel)
  · cases e

def primPy : Prim → Str × Value
  | .len => ("len", .builtin "len")
  | .abs => ("abs", .builtin "abs")
  | .max => ("max", .builtin "max")
  | .min => ("min", .builtin "min")
  | .int => ("int", .type "int")
  | .str => ("str", .type "str")
  | .repr => ("repr", .builtin "repr")
  | .sum => ("sum", .builtin "sum")
  | .all => ("all", .builtin "all")
  | .any => ("any", .builtin "any")
  | .isInst => ("isinstance", .builtin "isinstance")
  | .tuple => ("tuple", .type "tuple")
  | .list => ("list", .type "list")
def rPrim (K : PySem.W.Frag) : Prim → List V → Hp → VK → Prop
  | .len => fun xs H Q => ∃ x n, xs = [x] ∧ LenV K x H n ∧ Q (.int n) H
  | .abs => fun xs H Q => ∃ i, xs = [.int i] ∧ Q (.int (if i < 0 then -i else i)) H
  | .max => fun xs H Q => ∃ i j, xs = [.int i, .int j] ∧ Q (.int (if j > i then j else i)) H
  | .min => fun xs H Q => ∃ i j, xs = [.int i, .int j] ∧ Q (.int (if j < i then j else i)) H
  | .int => fun xs H Q => ((∃ i, xs = [.int i] ∧ Q (.int i) H) ∨ ∃ k, xs = [.bl k] ∧ Q (.int (if k then 1 else 0)) H) ∨ ∃ a n, xs = [.str a] ∧ PySem.intText? a = some n ∧ a.length ≤ 640 ∧ Q (.int n) H
  | .str => fun xs H Q => ∃ i, xs = [.int i] ∧ i.natAbs.log2 < 1920 ∧ Q (.str (toString i)) H
  | .repr => fun xs H Q => (∃ x d, xs = [x] ∧ Dp K H x d ∧ d.showable = true ∧ d.hasDict = false ∧ d.depth ≤ 60 ∧ d.shown.length ≤ sizeLine ∧ Q (.str d.shown) H) ∨ ∃ a, xs = [.ref a] ∧ H a = some (.dK []) ∧ Q (.str "{}") H
  | .sum => rSum K
  | .all => rAll K
  | .any => rAny K
  | .isInst => rIsi K
  | .tuple => fun xs H Q => ∃ p ys, xs = [.ref p] ∧ ((SqL K H p ys ∧ ∀ l, H l = none → Q (.ref l) (upd H l (.tup ys))) ∨ (SqT K H p ys ∧ Q (.ref p) H))
  | .list => fun xs H Q => ∃ p ys, xs = [.ref p] ∧ (SqL K H p ys ∨ SqT K H p ys) ∧ ∀ l, H l = none → Q (.ref l) (upd H l (.lst ys))
/-- repr(x) of plain data -/
theorem call_repr (hg : X.A.guards = some []) (hu : X.A.units + 65 < cLine) : CallR X (.builtin "repr") (rPrim X.K .repr) := by
  intro pins s σ H xs us Q I r h
  rcases h with ⟨x, d, rfl, hd, h1, h2, h3, h4, q⟩ | ⟨a, rfl, ha, q⟩
  rotate_left
  · obtain ⟨u, rfl, rx⟩ := vals1 r
    cases (show u = Value.ref a from rx)
    obtain ⟨_, hsm, vs, kv, o, es, ep, g1, g2, g3⟩ := dk_of I.hok ha
    cases kv
    obtain ⟨e1, _, pr, _⟩ := g3
    have hes : es = #[] := by
      have z : es.toList = [] := by
        generalize es.toList = l at pr
        cases pr
        rfl
      exact Array.toList_eq_nil_iff.mp z
    subst hes
    have rd : Reads s.heap (.ref a) (.dict []) ([a] ++ [] ++ []) := .dict g1 g2.1 e1 .nil .nil
    have hdp : PyData.depth (.dict []) ≤ 2 := by decide
    refine repr_of_reads' rd (by decide) (fun _ => ?_) hg (by omega) (fun _ _ e => e) (fun h' v tk k => ?_) (by decide)
    · simp
      intro z
      rw [← z] at hsm
      simp at hsm
    · exact ⟨.str "{}", H, I.kept k, ⟨_, rfl⟩, q⟩
  obtain ⟨u, rfl, rx⟩ := vals1 r
  obtain ⟨as, rd⟩ := Dp.reads I d x u hd rx
  have fin : ∀ h' v tk, (∀ b o, s.heap.get? b = some o → h'.get? b = some o) → EP X pins σ Q (.str d.shown v) { s with heap := h', toks := tk } := fun h' v tk k => ⟨.str d.shown, H, I.kept k, ⟨_, rfl⟩, q⟩
  cases u with
  | ref a => exact repr_of_reads' rd h1 (fun e => by rw [h2] at e; cases e) hg (by omega) (fun _ _ e => e) fin h4
  | none => cases rd; exact PySem.P.repr_of_none (fin s.heap _ _ fun _ _ e => e)
  | bool b => cases rd; exact PySem.P.repr_of_bool (fin s.heap _ _ fun _ _ e => e)
  | int i t => cases rd; exact PySem.P.repr_of_int (by simpa [PyData.showable] using h1) (fin s.heap _ _ fun _ _ e => e)
  | str i t => cases rd; exact PySem.P.repr_of_str (fin s.heap _ _ fun _ _ e => e) h4
  | _ => cases rd
theorem prim_call (hc : X.calm = true) (hgd : X.A.guards = some []) (hu : X.A.units + 65 < cLine) : ∀ p : Prim, CallR X (primPy p).2 (rPrim X.K p)
  | .len => call_len
  | .abs => call_abs
  | .max => call_max2 hc
  | .min => call_min2 hc
  | .int => call_int1.or call_int_str
  | .str => call_str_int
  | .repr => call_repr hgd hu
  | .sum => cr_sum hc
  | .all => cr_all hc
  | .any => cr_any hc
  | .isInst => call_isi
  | .tuple => call_tuple_of
  | .list => call_list_of
theorem prim_ok {p : Prim} {vs : List Val} {us : List V} (c : CsR (Cx.wd X) m H cs) (rs : ARs (Cx.wd X) m H vs us) (s : Sat (Cx.wd X) Ew (primV p vs cs) m H (QE (Cx.wd X) Q)) : rPrim X.K p us H Q := by
  unfold primV at s
  split at s
  · rename_i x
    cases rs with | cons r t => cases t; rw [r.str]; split at s
                                · exact ⟨_, _, rfl, ⟨by assumption, rfl⟩, sat_at c s (.val (.int _))⟩
                                · exact s.elim
  · rename_i v _
    cases rs with
    | cons r t =>
      cases t
      obtain ⟨xs, e, s⟩ := sat_of s
      obtain ⟨a, ys, rfl, h1, h2⟩ := seqOf_at c e r
      rw [h2.length] at s
      exact ⟨_, _, rfl, h1.imp (fun z => ⟨_, z, rfl⟩) (fun z => ⟨_, z, rfl⟩), sat_at c s (.val (.int _))⟩
  · cases rs with | cons r t => cases t; rw [r.int]; exact ⟨_, rfl, sat_at c s (.val (.int _))⟩
  · cases rs with | cons r t => cases t with | cons r2 t => cases t; rw [r.int, r2.int]; exact ⟨_, _, rfl, sat_at c s (.val (.int _))⟩
  · cases rs with | cons r t => cases t with | cons r2 t => cases t; rw [r.int, r2.int]; exact ⟨_, _, rfl, sat_at c s (.val (.int _))⟩
  · cases rs with | cons r t => cases t; rw [r.int]; exact .inl (.inl ⟨_, rfl, sat_at c s (.val (.int _))⟩)
  · cases rs with | cons r t => cases t; rw [r.bl]; exact .inl (.inr ⟨_, rfl, sat_at c s (.val (.int _))⟩)
  · cases rs with
    | cons r t =>
      cases t
      rw [r.str]
      split at s
      · obtain ⟨n, e, s⟩ := sat_of s
        exact .inr ⟨_, n, rfl, e, by assumption, sat_at c s (.val (.int _))⟩
      · exact s.elim
  · cases rs with
    | cons r t =>
      cases t
      rw [r.int]
      split at s
      · exact ⟨_, rfl, by assumption, sat_at c s (.val (.str _))⟩
      · exact s.elim
  · cases rs with
    | cons r t =>
      cases t
      cases r with
      | val r => cases r with | emp ha na => exact .inr ⟨_, rfl, ha, sat_at c s (.val (.str _))⟩
  · cases rs with
    | cons r t =>
      cases t
      obtain ⟨x, e, s⟩ := sat_of s
      unfold shownAt at e
      split at e
      · rename_i d ed
        split at e
        · rename_i hk
          cases e
          exact .inl ⟨_, d, rfl, datAt_at c ed r, hk.1, hk.2.1, hk.2.2.1, hk.2.2.2, sat_at c s (.val (.str _))⟩
        · cases e
      · cases e
  · cases rs with
    | cons r t =>
      cases t
      obtain ⟨ns, e, s⟩ := sat_of s
      obtain ⟨xs, e1, e2⟩ := Option.bind_eq_some_iff.mp e
      obtain ⟨a, ys, rfl, h1, h2⟩ := listOf_at c e1 r
      rw [ints_at e2 h2] at h1
      exact ⟨a, ns, rfl, h1, sat_at c s (.val (.int _))⟩
  · cases rs with
    | cons r t =>
      cases t
      obtain ⟨ns, e, s⟩ := sat_of s
      obtain ⟨xs, e1, e2⟩ := Option.bind_eq_some_iff.mp e
      obtain ⟨a, ys, rfl, h1, h2⟩ := listOf_at c e1 r
      rw [bls_at e2 h2] at h1
      exact ⟨a, ns, rfl, h1, sat_at c s (.val (.bl _))⟩
  · cases rs with
    | cons r t =>
      cases t
      obtain ⟨ns, e, s⟩ := sat_of s
      obtain ⟨xs, e1, e2⟩ := Option.bind_eq_some_iff.mp e
      obtain ⟨a, ys, rfl, h1, h2⟩ := listOf_at c e1 r
      rw [bls_at e2 h2] at h1
      exact ⟨a, ns, rfl, h1, sat_at c s (.val (.bl _))⟩
  · cases rs with
    | cons r t =>
      cases t with
      | cons r2 t =>
        cases t
        obtain ⟨b, e, s⟩ := sat_of s
        obtain ⟨t, e1, e2⟩ := Option.bind_eq_some_iff.mp e
        cases r2 with
        | val h =>
          cases h
          exact ⟨_, _, _, _, b, rfl, .ty _, typeName_at e1 r, instB_at e1 e2, sat_at c s (.val (.bl _))⟩
  · cases rs with
    | cons r t =>
      cases t
      obtain ⟨a, ys, rfl, h1, h2⟩ := r.tup
      exact ⟨a, ys, rfl, .inr ⟨h1.sq, sat_at c s (.val (.tup h1 h2))⟩⟩
  · cases rs with
    | cons r t =>
      cases t
      obtain ⟨xs, e, s⟩ := sat_of s
      obtain ⟨a, ys, rfl, h1, h2⟩ := listOf_at c e r
      exact ⟨a, ys, rfl, .inl ⟨h1, sat_tup c s h2⟩⟩
  · cases rs with
    | cons r t =>
      cases t
      obtain ⟨xs, e, s⟩ := sat_of s
      obtain ⟨a, ys, rfl, h1, h2⟩ := seqOf_at c e r
      exact ⟨a, ys, rfl, h1, sat_lst c s h2⟩
  · exact s.elim
theorem s_prim {x : Str} {p : Prim} {e : Expr} {es : List Expr} {es' : List E} {pn pos : Pos} (hc : X.calm = true) (hgd : X.A.guards = some []) (hu : X.A.units + 65 < cLine) (hx : (primPy p).1 = x) (hg : Gl X x) (hm : X.mg x = none) (ha : SA X W cl (e :: es) es')
    (he : starEach (e :: es) X.env = (false, eval e X.env) :: starEach es X.env) (hpl : (backTo pos (starEach es X.env)).any (·.1) = false) : SE X W cl (.Call (.Name x pn) (e :: es) [] pos) (.prim p es') := by
  have key : PE X (.Call (.Name x pn) (e :: es) [] pos) (tCB (rPrim X.K p) (TArg (Cx.wd X) W cl es')) := by
    subst hx
    have hr := prim_call hc hgd hu p
    cases p <;> first
      | exact pe_callB hr hg hm (by decide +kernel) ha (by decide) (by decide) he hpl
      | exact pe_callTy hr hg hm (by decide +kernel) ha (by decide) (by decide) he hpl
  refine key.weak fun σ H Q ⟨sl, m, cs, hs, hc, s⟩ => ?_
  simp only [ev] at s
  exact firsts hs hc s fun xs cs1 m1 H1 us e1 hs1 c1 r1 s1 => prim_ok c1 r1 s1

/-! ### methods of texts -/
def smPy : Sm → Str × String
  | .split => ("split", "str.split")
  | .join => ("join", "str.join")
  | .startswith => ("startswith", "str.startswith")
  | .upper => ("upper", "str.upper")
  | .index => ("index", "str.index")
def rSm (K : PySem.W.Frag) : Sm → V → List V → Hp → VK → Prop
  | .split => fun x xs H Q => ∃ a b, x = .str a ∧ xs = [.str b] ∧ (b.length == 0) = false ∧ a.length + 2 ≤ sizeLine ∧ rNewStrs (Txt.split a b) H Q
  | .join => fun x xs H Q => ∃ a p, ∃ ys : List Str, x = .str a ∧ xs = [.ref p] ∧ (SqL K H p (ys.map V.str) ∨ SqT K H p (ys.map V.str)) ∧ (ys.map (·.length)).sum + ys.length * a.length ≤ 16777216 ∧ Q (.str (Txt.join a ys)) H
  | .startswith => fun x xs H Q => ∃ a b, x = .str a ∧ xs = [.str b] ∧ Q (.bl (Txt.startswith a b)) H
  | .upper => fun x xs H Q => ∃ a, x = .str a ∧ xs = [] ∧ a.length ≤ 5592405 ∧ Q (.str (Txt.upper a)) H
  | .index => fun x xs H Q => ∃ a b k, x = .str a ∧ xs = [.str b] ∧ Txt.index0 a b = some k ∧ Q (.int (k : Nat)) H
theorem sm_call : ∀ p : Sm, MtR X (smPy p).2 (rSm X.K p)
  | .split => mt_split
  | .join => mt_join
  | .startswith => mt_startswith
  | .upper => mt_upper
  | .index => by
    intro pins s σ H x xs v us Q I rx rs h
    obtain ⟨a, b, k, rfl, rfl, e, w⟩ := h
    obtain ⟨t, rfl⟩ := rx
    cases rs with
    | cons r1 rs =>
      cases rs
      obtain ⟨u, rfl⟩ := r1
      unfold Txt.index0 at e
      cases q : Builtin.Str.occurrences a b 0 a.length 1 with
      | nil => rw [q] at e; cases e
      | cons k' rest =>
        rw [q] at e
        cases e
        exact PySem.SC.index q ⟨.int (k : Nat), H, I.tok _, ⟨_, rfl⟩, w⟩
theorem sm_ok {p : Sm} {a : Str} {vs : List Val} {us : List V} (c : CsR (Cx.wd X) m H cs) (rs : ARs (Cx.wd X) m H vs us) (s : Sat (Cx.wd X) Ew (smethV p a vs cs) m H (QE (Cx.wd X) Q)) : rSm X.K p (.str a) us H Q := by
  unfold smethV at s
  split at s
  · cases rs with
    | cons r t =>
      cases t
      rw [r.str]
      split at s
      · rename_i hk
        exact ⟨_, _, rfl, rfl, hk.1, hk.2, fun p n => sat_lst c s (strs_vr _) p n⟩
      · exact s.elim
  · cases rs with
    | cons r t =>
      cases t
      obtain ⟨ys, e, s⟩ := sat_of s
      obtain ⟨xs, e1, e2⟩ := Option.bind_eq_some_iff.mp e
      obtain ⟨p, zs, rfl, h1, h2⟩ := seqOf_at c e1 r
      rw [strs_at e2 h2] at h1
      split at s
      · exact ⟨_, p, ys, rfl, rfl, h1, by assumption, sat_at c s (.val (.str _))⟩
      · exact s.elim
  · cases rs with | cons r t => cases t; rw [r.str]; exact ⟨_, _, rfl, rfl, sat_at c s (.val (.bl _))⟩
  · cases rs
    split at s
    · exact ⟨_, rfl, rfl, by assumption, sat_at c s (.val (.str _))⟩
    · exact s.elim
  · cases rs with
    | cons r t =>
      cases t
      rw [r.str]
      obtain ⟨k, e, s⟩ := sat_of s
      exact ⟨_, _, k, rfl, rfl, e, sat_at c s (.val (.int _))⟩
  · exact s.elim
theorem sm_slot : ∀ p : Sm, Slot "str" (smPy p).1 (smPy p).2 ∧ typeOf (.builtin (smPy p).2) = pure (.type "method_descriptor")
  | .split => ⟨PySem.F.slot_str_split, PySem.F.type_str_split⟩
  | .join => ⟨PySem.F.slot_str_join, PySem.F.type_str_join⟩
  | .startswith => ⟨PySem.F.slot_str_startswith, PySem.F.type_str_startswith⟩
  | .upper => ⟨PySem.F.slot_str_upper, PySem.F.type_str_upper⟩
  | .index => ⟨PySem.F.slot_str_index, PySem.F.type_str_index⟩
theorem s_smeth1 {p : Sm} {name : Str} {o e : Expr} {o' e' : E} {apos pos : Pos} (hx : (smPy p).1 = name) (ho : SE X W cl o o') (he : SE X W cl e e') (hs : starEach [e] X.env = [(false, eval e X.env)]) (hbase : attributeBase o name X.env (eval o X.env) = eval o X.env) (hline : (apos.endLine == pos.line) = true) :
    SE X W cl (.Call (.Attribute o name apos) [e] [] pos) (.smeth p o' [e']) := by
  subst hx
  refine (pe_m1 (sm_slot p).1 (sm_slot p).2 (sm_call p) ho he hs hbase hline).weak fun σ H Q ⟨sl, m, cs, hs, hc, s⟩ => ?_
  simp only [ev] at s
  refine first hs hc s fun x cs1 m1 H1 u e1 hs1 c1 r1 s1 => ?_
  split at s1
  · rename_i a
    rw [r1.str]
    refine ⟨⟨a, rfl⟩, ?_⟩
    simp only [evs] at s1
    have s2 : Sat (Cx.wd X) (fun c d H' => W c d σ H') ((ev cl e' sl cs1).bind fun v cs => smethV p a [v] cs) m1 H1 (QE (Cx.wd X) Q) := by
      cases q : ev cl e' sl cs1 with
      | stuck => rw [q] at s1; exact s1.elim
      | ex x cs' => rw [q] at s1; exact s1
      | ok v cs' => rw [q] at s1; exact s1
    exact first hs1 c1 s2 fun v cs2 m2 H2 w2 e2 hs2 c2 r2 s3 => sm_ok c2 (.cons r2 .nil) s3
  · exact s1.elim
theorem s_smeth0 {p : Sm} {name : Str} {o : Expr} {o' : E} {apos pos : Pos} (hx : (smPy p).1 = name) (ho : SE X W cl o o') (hbase : attributeBase o name X.env (eval o X.env) = eval o X.env) (hline : (apos.endLine == pos.line) = true) :
    SE X W cl (.Call (.Attribute o name apos) [] [] pos) (.smeth p o' []) := by
  subst hx
  refine (pe_m0 (sm_slot p).1 (sm_slot p).2 (sm_call p) ho hbase hline).weak fun σ H Q ⟨sl, m, cs, hs, hc, s⟩ => ?_
  simp only [ev] at s
  refine first hs hc s fun x cs1 m1 H1 u e1 hs1 c1 r1 s1 => ?_
  split at s1
  · rename_i a
    rw [r1.str]
    simp only [evs, R.bind_ok] at s1
    exact ⟨⟨a, rfl⟩, sm_ok c1 .nil s1⟩
  · exact s1.elim
end
end Ps

set_option maxHeartbeats 1000000
/-! PsIter: what loops walk. -/
namespace Ps
open PySem L2

/-- the walk J gives xs, as long as the source stands -/
structure ItOk (w : Wd) (k : ItK) (vs : List Val) (us : List V) (xs : List Val) (J : It) : Prop where
  ex : ∃ (G : Hp → Prop) (Y : Nat → Hp → V → Hp → Prop), Walk J xs.length G Y ∧
    (∀ m H cs, CsR w m H cs → ARs w m H vs us → itemsOf k vs cs = some xs → G H) ∧
    (∀ i m H cs u H' x, CsR w m H cs → ARs w m H vs us → itemsOf k vs cs = some xs → xs[i]? = some x → Y i H u H' → Ext m H m H' ∧ CsR w m H' cs ∧ AR w m H' x u)
def tIt (w : Wd) (W : WX) (cl : Cl) (k : ItK) (es : List E) : TI := fun σ H R => ∃ sl m cs, SloR w m H σ sl ∧ CsR w m H cs ∧
  Sat w (fun c d H' => W c d σ H') (evs cl es sl cs) m H fun vs cs' m' H' => ∀ us, ARs w m' H' vs us → ∃ xs, itemsOf k vs cs' = some xs ∧ ∀ J, ItOk w k vs us xs J → R J H'
abbrev SI (X : Cx) (W : WX) (cl : Cl) (tg iter : Expr) (k : ItK) (es : List E) : Prop := PI X tg iter (tIt (Cx.wd X) W cl k es)
theorem _root_.L2.PI.weak {X : Cx} {tg e : Expr} {t t' : TI} (h : PI X tg e t) (f : ∀ σ H Q, t' σ H Q → t σ H Q) : PI X tg e t' := ⟨fun pins s σ H Q I q => h.run pins s σ H Q I (f σ H Q q)⟩
theorem _root_.L2.PI.or {X : Cx} {tg e : Expr} {t t' : TI} (h : PI X tg e t) (h' : PI X tg e t') : PI X tg e (fun σ H Q => t σ H Q ∨ t' σ H Q) := ⟨fun pins s σ H Q I q => q.elim (h.run pins s σ H Q I) (h'.run pins s σ H Q I)⟩

section
variable {w : Wd}
theorem itok_list {v : Val} {a : Addr} {xs : List Val} (hv : ∀ cs, itemsOf .val [v] cs = listOf cs v) : ItOk w .val [v] [.ref a] xs (Itl w.K a) := by
  refine ⟨fun H => ∃ ys, SqL w.K H a ys ∧ ys.length = xs.length, fun i H u H' => H' = H ∧ ∀ ys, SqL w.K H a ys → ys[i]? = some u, ⟨?_, ?_, ?_⟩, ?_, ?_⟩
  · rintro i H hi ⟨ys, h1, h2⟩
    exact ⟨ys, ys[i]'(by omega), h1, by simp [h2, hi]⟩
  · rintro H ⟨ys, h1, h2⟩
    exact ⟨ys, h1, Nat.le_of_eq h2⟩
  · rintro i H x H' hi _ ⟨y1, y2⟩
    exact ⟨y1, y2⟩
  · intro m H cs c r e
    rw [hv] at e
    cases r with
    | cons r t =>
      obtain ⟨b, ys, eb, h1, h2⟩ := listOf_at c e r
      cases eb
      exact ⟨ys, h1, h2.length.symm⟩
  · rintro i m H cs u H' x c r e ex ⟨rfl, y⟩
    rw [hv] at e
    cases r with
    | cons r t =>
      obtain ⟨b, ys, eb, h1, h2⟩ := listOf_at c e r
      cases eb
      obtain ⟨u', e1, r1⟩ := h2.get ex
      have e2 := y ys h1
      rw [e1] at e2; cases e2
      exact ⟨Ext.refl _ _, c, .val r1⟩
theorem itok_tup {xs : List Val} {a : Addr} : ItOk w .val [.tup xs] [.ref a] xs (Itt w.K a) := by
  refine ⟨fun H => ∃ ys, SqT w.K H a ys ∧ ys.length = xs.length, fun i H u H' => H' = H ∧ ∀ ys, SqT w.K H a ys → ys[i]? = some u, ⟨?_, ?_, ?_⟩, ?_, ?_⟩
  · rintro i H hi ⟨ys, h1, h2⟩
    exact ⟨ys, ys[i]'(by omega), h1, by simp [h2, hi]⟩
  · rintro H ⟨ys, h1, h2⟩
    exact ⟨ys, h1, Nat.le_of_eq h2⟩
  · rintro i H x H' hi _ ⟨y1, y2⟩
    exact ⟨y1, y2⟩
  · intro m H cs c r e
    cases r with
    | cons r t =>
      obtain ⟨b, ys, eb, h1, h2⟩ := r.tup
      cases eb
      exact ⟨ys, h1.sq, h2.length.symm⟩
  · rintro i m H cs u H' x c r e ex ⟨rfl, y⟩
    cases r with
    | cons r t =>
      obtain ⟨b, ys, eb, h1, h2⟩ := r.tup
      cases eb
      obtain ⟨u', e1, r1⟩ := h2.get ex
      have e2 := y ys h1.sq
      rw [e1] at e2; cases e2
      exact ⟨Ext.refl _ _, c, .val r1⟩
theorem itok_str {z : Str} {u : V} : ItOk w .val [.str z] [u] (z.cps.toList.map fun c => .str ⟨#[c]⟩) (Its z) := by
  refine ⟨fun _ => True, fun i H v H' => H' = H ∧ ∃ c, z.cps[i]? = some c ∧ v = .str ⟨#[c]⟩, ?_, fun _ _ _ _ _ _ => trivial, ?_⟩
  · have h := walk_str (z := z)
    rw [show (z.cps.toList.map fun c => Val.str ⟨#[c]⟩).length = z.cps.size by simp]
    exact h
  · rintro i m H cs u H' x c r e ex ⟨rfl, cc, e1, rfl⟩
    have e2 : z.cps.toList[i]? = some cc := by simpa using e1
    rw [List.getElem?_map, e2] at ex
    cases ex
    exact ⟨Ext.refl _ _, c, .val (.str _)⟩
theorem itok_rng {k : ItK} {vs : List Val} {us : List V} {lo : Int} {n : Nat} : ItOk w k vs us ((List.range n).map fun i => .int (lo + (i : Nat))) (Itr lo n) := by
  refine ⟨fun _ => True, YFn fun i => .int (lo + i), ?_, fun _ _ _ _ _ _ => trivial, ?_⟩
  · rw [show ((List.range n).map fun i => Val.int (lo + (i : Nat))).length = n by simp]
    exact walk_range
  · rintro i m H cs u H' x c r e ex ⟨rfl, rfl⟩
    have hi : i < n := by
      have := (List.getElem?_eq_some_iff.mp ex).1
      simpa using this
    rw [List.getElem?_map, List.getElem?_range hi] at ex
    cases ex
    exact ⟨Ext.refl _ _, c, .val (.int _)⟩
theorem alloc_tup {m : MP} {H : Hp} {cs : Cells} {T : Addr} {xs : List Val} {ys : List V} (c : CsR w m H cs) (n : H T = none) (r : VRs w m H xs ys) : Ext m H m (upd H T (.tup ys)) ∧ CsR w m (upd H T (.tup ys)) cs ∧ AR w m (upd H T (.tup ys)) (.tup xs) (.ref T) :=
  ⟨Ext.alloc n (c.free n), c.alloc n, .val (.tup (.inl ⟨.inl upd_same, c.free n⟩) (r.ext (Ext.alloc n (c.free n))))⟩
theorem itok_enum {v : Val} {a : Addr} {xs : List Val} : ItOk w .enum [v] [.ref a] (xs.zipIdx.map fun p => .tup [.int (p.2 : Nat), p.1]) (Ite w.K a) := by
  refine ⟨fun H => ∃ ys, SqL w.K H a ys ∧ ys.length = xs.length, fun i H u H' => ∃ T x0, u = .ref T ∧ H T = none ∧ H' = upd H T (.tup [.int (i : Nat), x0]) ∧ ∀ ys, SqL w.K H a ys → ys[i]? = some x0, ⟨?_, ?_, ?_⟩, ?_, ?_⟩
  · rintro i H hi ⟨ys, h1, h2⟩
    have hi' : i < ys.length := by simpa [h2] using hi
    exact ⟨ys, ys[i], h1, by simp [hi']⟩
  · rintro H ⟨ys, h1, h2⟩
    exact ⟨ys, h1, by simp [h2]⟩
  · rintro i H x H' hi _ y
    exact y
  · intro m H cs c r e
    simp only [itemsOf, Option.map_eq_some_iff] at e
    obtain ⟨zs, e1, e2⟩ := e
    cases r with
    | cons r t =>
      obtain ⟨b, ys, eb, h1, h2⟩ := listOf_at c e1 r
      cases eb
      have := congrArg List.length e2
      simp at this
      exact ⟨ys, h1, by rw [← h2.length]; exact this⟩
  · rintro i m H cs u H' x c r e ex ⟨T, x0, rfl, nT, rfl, y⟩
    simp only [itemsOf, Option.map_eq_some_iff] at e
    obtain ⟨zs, e1, e2⟩ := e
    cases r with
    | cons r t =>
      obtain ⟨b, ys, eb, h1, h2⟩ := listOf_at c e1 r
      cases eb
      rw [← e2, List.getElem?_map, List.getElem?_zipIdx] at ex
      cases q : zs[i]? with
      | none => rw [q] at ex; cases ex
      | some z =>
        rw [q] at ex
        have ex' : Val.tup [.int ((0 + i : Nat) : Int), z] = x := by simpa using ex
        subst ex'
        obtain ⟨u', e3, r3⟩ := h2.get q
        have e4 := y ys h1
        rw [e3] at e4; cases e4
        rw [Nat.zero_add]
        exact alloc_tup c nT (.cons (.int _) (.cons r3 .nil))
end

section
variable {X : Cx} {W : WX} {cl : Cl} {tg : Expr}
theorem evs_one {e : E} {sl : Slots} {cs : Cells} : evs cl [e] sl cs = (ev cl e sl cs).bind fun v cs => .ok [v] cs := by
  simp only [evs]
  cases ev cl e sl cs <;> rfl
theorem i_val {e : Expr} {e' : E} (he : SE X W cl e e') : SI X W cl tg e .val [e'] := by
  refine ((pi_list (tg := tg) he).or ((pi_tup he).or (pi_str he))).weak fun σ H R ⟨sl, m, cs, hs, hc, s⟩ => ?_
  rw [evs_one] at s
  cases q : ev cl e' sl cs with
  | stuck => rw [q] at s; exact s.elim
  | ex x cs' =>
    rw [q] at s
    exact .inl ⟨sl, m, cs, hs, hc, by rw [q]; exact s⟩
  | ok v cs' =>
    rw [q] at s
    cases v with
    | tup xs =>
      refine .inr (.inl ⟨sl, m, cs, hs, hc, ?_⟩)
      rw [q]
      intro m1 H1 e1 c1 u r
      obtain ⟨a, ys, rfl, h1, h2⟩ := r.tup
      obtain ⟨xs', e, k⟩ := s m1 H1 e1 c1 [.ref a] (.cons r .nil)
      cases e
      exact ⟨a, rfl, ⟨ys, h1.sq⟩, k _ itok_tup⟩
    | str z =>
      refine .inr (.inr ⟨sl, m, cs, hs, hc, ?_⟩)
      rw [q]
      intro m1 H1 e1 c1 u r
      obtain ⟨xs', e, k⟩ := s m1 H1 e1 c1 [u] (.cons r .nil)
      cases e
      exact ⟨z, r.str, k _ itok_str⟩
    | lst xs =>
      refine .inl ⟨sl, m, cs, hs, hc, ?_⟩
      rw [q]
      intro m1 H1 e1 c1 u r
      obtain ⟨xs', e, k⟩ := s m1 H1 e1 c1 [u] (.cons r .nil)
      obtain ⟨a, ys, rfl, h1, h2⟩ := listOf_at (v := .lst xs) c1 e r
      exact ⟨a, rfl, ⟨ys, h1⟩, k _ (itok_list fun _ => rfl)⟩
    | fro xs =>
      refine .inl ⟨sl, m, cs, hs, hc, ?_⟩
      rw [q]
      intro m1 H1 e1 c1 u r
      obtain ⟨xs', e, k⟩ := s m1 H1 e1 c1 [u] (.cons r .nil)
      obtain ⟨a, ys, rfl, h1, h2⟩ := listOf_at (v := .fro xs) c1 e r
      exact ⟨a, rfl, ⟨ys, h1⟩, k _ (itok_list fun _ => rfl)⟩
    | ref i =>
      refine .inl ⟨sl, m, cs, hs, hc, ?_⟩
      rw [q]
      intro m1 H1 e1 c1 u r
      obtain ⟨xs', e, k⟩ := s m1 H1 e1 c1 [u] (.cons r .nil)
      obtain ⟨a, ys, rfl, h1, h2⟩ := listOf_at (v := .ref i) c1 e r
      exact ⟨a, rfl, ⟨ys, h1⟩, k _ (itok_list fun _ => rfl)⟩
    | _ =>
      refine .inl ⟨sl, m, cs, hs, hc, ?_⟩
      rw [q]
      intro m1 H1 e1 c1 u r
      obtain ⟨xs', e, k⟩ := s m1 H1 e1 c1 [u] (.cons r .nil)
      cases e
theorem i_rng1 {e : Expr} {es' : List E} {p pos : Pos} (hg : Gl X "range") (hm : X.mg "range" = none) (ha : SA X W cl [e] es') (hs : starEach [e] X.env = [(false, eval e X.env)]) : SI X W cl tg (.Call (.Name "range" p) [e] [] pos) .rng1 es' := by
  refine (pi_range1 hg hm ha hs).weak fun σ H R ⟨sl, m, cs, hs, hc, s⟩ => ⟨sl, m, cs, hs, hc, s.mono (fun vs cs1 m1 H1 e1 c1 k us rs => ?_) fun _ _ _ z => z⟩
  obtain ⟨xs, e, kj⟩ := k us rs
  clear k
  simp only [itemsOf] at e
  split at e
  rotate_left
  · cases e
  rename_i j
  split at e
  · cases e
    cases rs with
    | cons r t =>
      cases t
      rw [r.int]
      exact ⟨j, rfl, by omega, by omega, kj _ itok_rng⟩
  · cases e
theorem i_rng2 {e e2 : Expr} {es' : List E} {p pos : Pos} (hg : Gl X "range") (hm : X.mg "range" = none) (ha : SA X W cl [e, e2] es') (hs : starEach [e, e2] X.env = [(false, eval e X.env), (false, eval e2 X.env)]) (hs2 : starEach [e2] X.env = [(false, eval e2 X.env)]) : SI X W cl tg (.Call (.Name "range" p) [e, e2] [] pos) .rng2 es' := by
  refine (pi_range2 hg hm ha hs hs2).weak fun σ H R ⟨sl, m, cs, hs, hc, s⟩ => ⟨sl, m, cs, hs, hc, s.mono (fun vs cs1 m1 H1 e1 c1 k us rs => ?_) fun _ _ _ z => z⟩
  obtain ⟨xs, e, kj⟩ := k us rs
  clear k
  simp only [itemsOf] at e
  split at e
  rotate_left
  · cases e
  rename_i i j
  split at e
  · cases e
    cases rs with
    | cons r t =>
      cases t with
      | cons r' t =>
        cases t
        rw [r.int, r'.int]
        exact ⟨i, j, rfl, by omega, kj _ itok_rng⟩
  · cases e
theorem i_enum {e : Expr} {es' : List E} {p pos tpos : Pos} {elts : List Expr} {kk : Nat} (hg : Gl X "enumerate") (hm : X.mg "enumerate" = none) (ha : SA X W cl [e] es') (hs : starEach [e] X.env = [(false, eval e X.env)]) : SI X W cl (.Tuple elts kk tpos) (.Call (.Name "enumerate" p) [e] [] pos) .enum es' := by
  refine (pi_enum hg hm ha hs).weak fun σ H R ⟨sl, m, cs, hs, hc, s⟩ => ⟨sl, m, cs, hs, hc, s.mono (fun vs cs1 m1 H1 e1 c1 k us rs => ?_) fun _ _ _ z => z⟩
  obtain ⟨xs, e, kj⟩ := k us rs
  clear k
  simp only [itemsOf] at e
  split at e
  rotate_left
  · cases e
  rename_i v
  rw [Option.map_eq_some_iff] at e
  obtain ⟨zs, e1, rfl⟩ := e
  cases rs with
  | cons r t =>
    cases t
    obtain ⟨a, ys, rfl, h1, h2⟩ := listOf_at c1 e1 r
    exact ⟨a, ys, rfl, h1, kj _ itok_enum⟩
end
end Ps

set_option maxHeartbeats 2000000
/-! PsZip: zip of two, strict or not, its tuple free or kept. -/
namespace Ps
open PySem
/-- a zip as it stands -/
abbrev ZAt (st : Bool) (h : Heap) (z TI TO : Addr) (f0 f1 : Value) : Prop :=
  h.get? z = some { cls := .type "zip", dict := none, data := .fields #[f0, f1, .bool st, .ref TI, .ref TO], slots := #[] }
/-- one draw of a zip -/
def drawZ (st : Bool) (it : Value) : Sem (Option Value) := do
  if st then Builtin.SmallTypes.nextOrEnd it else return some (← Builtin.SmallTypes.nextOf it)
theorem beqT (st : Bool) : (Value.bool st == Value.bool true) = st := by cases st <;> rfl
section
variable {prog : Program} {w : World} {A : Around} {E : Value → Shared → Prop} {s : Shared} {it : Addr} {fp : List Addr} {n i : Nat} {P : Nat → Value → Prop} {St : Nat → Heap → Prop}
theorem draw_item {st : Bool} {Q : Option Value → Shared → Prop} (D : Draws prog w A it fp n P St) (hi : i < n) (hs : St i s.heap) (hQ : ∀ x h' tk, P i x → St (i + 1) h' → Heap.SameBut it s.heap h' → Q (some x) { s with heap := h', toks := tk }) :
    wpAny (model prog w) A (drawZ st (.ref it)) Q E s := by
  cases st with
  | false =>
    show wpAny _ _ (Builtin.SmallTypes.nextOf (.ref it) >>= fun v => pure (some v)) _ _ _
    exact wpAny_bind (D.item i s _ _ hi hs fun x h' tk p s' b => wpAny_pure (hQ x h' tk p s' b))
  | true =>
    show wpAny _ _ (Builtin.SmallTypes.nextOrEnd (.ref it)) _ _ _
    unfold Builtin.SmallTypes.nextOrEnd
    exact wpAny_bind (wpAny_attempt (D.item i s _ _ hi hs fun x h' tk p s' b => wpAny_pure (hQ x h' tk p s' b)))
theorem orEnd_done {Q : Option Value → Shared → Prop} (D : Draws prog w A it fp n P St) (hs : St n s.heap) (hQ : ∀ h', Heap.ExtBut it s.heap h' → Q none { s with heap := h' }) :
    wpAny (model prog w) A (Builtin.SmallTypes.nextOrEnd (.ref it)) Q E s := by
  unfold Builtin.SmallTypes.nextOrEnd
  refine wpAny_bind (wpAny_attempt (D.done s _ _ hs fun h' e b he => ?_))
  obtain ⟨o, ho, hc⟩ := he
  refine wpAny_bind (wpAny_isInstance (T := "StopIteration") (b := true) ⟨o, ho, hc⟩ isSubtype_stop ?_)
  exact wpAny_pure (hQ h' b)
/-- StopIteration is raised -/
theorem stop_raised {α : Type} {Q : α → Shared → Prop} (hh : A.handled = none) (hE : ∀ h' e, (∀ c o, s.heap.get? c = some o → h'.get? c = some o) → (∃ o, h'.get? e = some o ∧ o.cls = .type "StopIteration") → E (.ref e) { s with heap := h' }) :
    wpAny (model prog w) A (Builtin.SmallTypes.stopIteration : Sem α) Q E s := by
  unfold Builtin.SmallTypes.stopIteration
  refine wpAny_bind ?_
  simp only [newExc, newTuple]
  refine wpAny_bind (wpAny_newObj_type ?_ (by size_fits))
  refine wpAny_bind (m := firstArgMember _ _) (wpAny_of_eq (a := Value.none) (by first | rfl | (simp only [firstArgMember]; rfl)) ?_)
  refine wpAny_newObj_type ?_ (by size_fits)
  simp only [raiseNew]
  refine wpAny_bind (wpAny_handled ?_)
  first | rw [show A.in1.handled = none from hh] | rw [hh]
  refine wpAny_bind (wpAny_pure (wpAny_throw ?_))
  exact hE _ _ (fun c o e => Heap.get?_push_of_some _ (Heap.get?_push_of_some _ e)) ⟨_, Heap.get?_push_size _ rfl, rfl⟩
end
section
variable {prog : Program} {w : World} {A : Around} {E : Value → Shared → Prop} {s : Shared} {z TI TO i1 i2 : Addr} {fp1 fp2 : List Addr} {n1 n2 i : Nat} {P1 P2 : Nat → Value → Prop} {St1 St2 : Nat → Heap → Prop} {a1 a2 : Value} {st : Bool}
/-- the next pair, its tuple free -/
theorem zn_free {f1 : Value} {Q : Value → Shared → Prop} (S : ZipSep2 z TI TO i1 i2 fp1 fp2) (D1 : Draws prog w A i1 fp1 n1 P1 St1) (D2 : Draws prog w A i2 fp2 n2 P2 St2)
    (hz : ZAt st s.heap z TI TO .none f1) (hTI : IsTupOf2 s.heap TI (.ref i1) (.ref i2)) (hTO : IsTupOf2 s.heap TO a1 a2) (st1 : St1 i s.heap) (st2 : St2 i s.heap) (hlt1 : i < n1) (hlt2 : i < n2)
    (hQ : ∀ x1 x2 h' tk, P1 i x1 → P2 i x2 → ZAt st h' z TI TO (rawInt s.heap.objs.size) (.bool false) → IsTupOf2 h' TO x1 x2 → St1 (i + 1) h' → St2 (i + 1) h' → IsTupOf2 h' s.heap.objs.size x1 x2 → h'.objs.size = s.heap.objs.size + 1 →
      (∀ c o, c ≠ z → c ≠ TO → c ≠ i1 → c ≠ i2 → s.heap.get? c = some o → h'.get? c = some o) → Q (.ref s.heap.objs.size) { s with heap := h', toks := tk }) :
    wpAny (model prog w) A (Builtin.«zip.__next__» ⟨[.ref z], []⟩) (fun fin s' => ∃ v, fin = .done (.ret v) ∧ Q v s') E s := by
  obtain ⟨hp, g, d, tk0, os⟩ := s
  show wpAny _ _ (field (.ref z) 2 >>= _) _ _ _
  refine wpAny_bind (wpAny_field hz rfl (x := .bool st) rfl ?_)
  show wpAny _ _ (field (.ref z) 3 >>= _) _ _ _
  refine wpAny_bind (wpAny_field hz rfl (x := .ref TI) rfl ?_)
  refine wpAny_bind (wpAny_seqItems hTI rfl ?_)
  show wpAny _ _ (Builtin.SmallTypes.ownedTupleIsFree (.ref z) >>= _) _ _ _
  refine wpAny_bind ?_
  unfold Builtin.SmallTypes.ownedTupleIsFree
  refine wpAny_bind (wpAny_field hz rfl (x := .none) rfl (wpAny_pure ?_))
  simp only [if_true]
  refine wpAny_bind (wpAny_rule (wpAny_bind (wpAny_field hz rfl (x := .ref TO) rfl ?_)))
  refine wpAny_bind (wpAny_setField_rec hz (by simp) fun g0 hz0 hs0 => ?_)
  replace hz0 : ZAt st g0 z TI TO .ellipsis f1 := hz0
  replace hs0 : Heap.SameBut z hp g0 := hs0
  refine wpAny_bind ?_
  simp only [List.zipIdx_cons, List.zipIdx_nil, List.forIn_cons, List.forIn_nil]
  refine wpAny_bind (wpAny_bind (wpAny_onRaise ?_))
  show wpAny _ _ (drawZ (Value.bool st == Value.bool true) (.ref i1)) _ _ ⟨g0, g, d, tk0, os⟩
  refine draw_item D1 hlt1 (D1.over st1 hs0 S.zf1) fun x1 p1 tk1 hx1 sn1 hp1 => ?_
  replace hp1 : Heap.SameBut i1 g0 p1 := hp1
  have hU1 : IsTupOf2 p1 TO a1 a2 := hp1.extBut _ _ S.Ti1 (hs0.extBut _ _ S.TOz hTO)
  refine wpAny_bind (wpAny_seqItems (s := ⟨p1, g, d, tk1, os⟩) hU1 rfl ?_)
  refine wpAny_bind (updateSeq_IsTupOf2 (s := ⟨p1, g, d, tk1, os⟩) hU1 fun g1 hT1 hs1 => ?_)
  replace hT1 : IsTupOf2 g1 TO x1 a2 := hT1
  replace hs1 : Heap.SameBut TO p1 g1 := hs1
  refine wpAny_bind (wpAny_letGo (wpAny_pure ?_))
  refine wpAny_bind (wpAny_bind (wpAny_onRaise ?_))
  show wpAny _ _ (drawZ (Value.bool st == Value.bool true) (.ref i2)) _ _ ⟨g1, g, d, tk1, os⟩
  refine draw_item D2 hlt2 (D2.over (D2.over (D2.over st2 hs0 S.zf2) hp1 S.sep1_2) hs1 S.Tf2) fun x2 p2 tk2 hx2 sn2 hp2 => ?_
  replace hp2 : Heap.SameBut i2 g1 p2 := hp2
  have hU2 : IsTupOf2 p2 TO x1 a2 := hp2.extBut _ _ S.Ti2 hT1
  refine wpAny_bind (wpAny_seqItems (s := ⟨p2, g, d, tk2, os⟩) hU2 rfl ?_)
  refine wpAny_bind (updateSeq_IsTupOf2 (s := ⟨p2, g, d, tk2, os⟩) hU2 fun g2 hT2 hs2 => ?_)
  replace hT2 : IsTupOf2 g2 TO x1 x2 := hT2
  replace hs2 : Heap.SameBut TO p2 g2 := hs2
  refine wpAny_bind (wpAny_letGo (wpAny_pure (wpAny_pure ?_)))
  refine wpAny_bind (wpAny_seqItems (s := ⟨g2, g, d, tk2, os⟩) hT2 rfl (wpAny_bind (wpAny_newTuple ?_)))
  have hsz : g2.objs.size = hp.objs.size := by rw [hs2.1, hp2.1, hs1.1, hp1.1, hs0.1]
  have hzz : ZAt st g2 z TI TO .ellipsis f1 := (hs2.extBut _ _ S.TOz.symm (hp2.extBut _ _ S.zi2 (hs1.extBut _ _ S.TOz.symm (hp1.extBut _ _ S.zi1 hz0))))
  have hkk : ∀ c o, c ≠ z → c ≠ TO → c ≠ i1 → c ≠ i2 → hp.get? c = some o → g2.get? c = some o := fun c o cz cT c1 c2 e =>
    (hs2.extBut _ _ cT (hp2.extBut _ _ c2 (hs1.extBut _ _ cT (hp1.extBut _ _ c1 (hs0.extBut _ _ cz e)))))
  have hj1 : St1 (i + 1) g2 := (D1.over (D1.over (D1.over sn1 hs1 S.Tf1) hp2 S.sep2_1) hs2 S.Tf1)
  have hj2 : St2 (i + 1) g2 := (D2.over sn2 hs2 S.Tf2)
  have hzlt : z < g2.objs.size := Heap.lt_size hzz
  show wpAny _ _ (Builtin.SmallTypes.ownedTupleHandOut (.ref z) (.ref g2.objs.size) >>= _) _ _ ⟨g2.push { cls := .type "tuple", data := .seq #[x1, x2] }, g, d, tk2, os⟩
  refine wpAny_bind ?_
  unfold Builtin.SmallTypes.ownedTupleHandOut
  have hz6 : ZAt st (g2.push { cls := .type "tuple", data := .seq #[x1, x2] }) z TI TO .ellipsis f1 := Heap.get?_push_of_some _ hzz
  refine wpAny_bind (wpAny_setField_rec hz6 (by simp) fun h7 hz7 hs7 => ?_)
  replace hz7 : ZAt st h7 z TI TO (rawInt g2.objs.size) f1 := hz7
  refine wpAny_setField_rec hz7 (by simp) fun h8 hz8 hs8 => ?_
  replace hz8 : ZAt st h8 z TI TO (rawInt g2.objs.size) (.bool false) := hz8
  replace hs7 : Heap.SameBut z (g2.push { cls := .type "tuple", data := .seq #[x1, x2] }) h7 := hs7
  replace hs8 : Heap.SameBut z h7 h8 := hs8
  have up : ∀ c o, c ≠ z → g2.get? c = some o → h8.get? c = some o := fun c o c1 e => hs8.extBut _ _ c1 (hs7.extBut _ _ c1 (Heap.get?_push_of_some _ e))
  have hT8 : IsTupOf2 h8 g2.objs.size x1 x2 := hs8.extBut _ _ (Nat.ne_of_gt hzlt) (hs7.extBut _ _ (Nat.ne_of_gt hzlt) (Heap.get?_push_size _ rfl))
  have hsz8 : h8.objs.size = g2.objs.size + 1 := by rw [hs8.1, hs7.1, Heap.size_push]
  rw [hsz] at hz8 hT8 hsz8
  refine wpAny_pure ⟨_, rfl, ?_⟩
  show Q (.ref g2.objs.size) ⟨h8, g, d, tk2, os⟩
  rw [hsz]
  exact hQ x1 x2 h8 tk2 hx1 hx2 hz8 (up _ _ S.TOz hT2) (D1.frame _ _ _ hj1 fun b hb o e => up b o (fun q => S.zf1 (q ▸ hb)) e) (D2.frame _ _ _ hj2 fun b hb o e => up b o (fun q => S.zf2 (q ▸ hb)) e) hT8 hsz8 fun c o cz cT c1 c2 e => up c o cz (hkk c o cz cT c1 c2 e)
/-- the tuple that was handed out is kept by someone -/
theorem held_look {T : Addr} {f : Bool} {oT : Obj} {Q : Bool → Shared → Prop} (hz : ZAt st s.heap z TI TO (rawInt T) (.bool f)) (hT : s.heap.get? T = some oT)
    (h : ∀ h', ZAt st h' z TI TO (rawInt T) (.bool true) → Heap.SameBut z s.heap h' → Q false { s with heap := h' }) : wpAny (model prog w) A (Builtin.SmallTypes.ownedTupleIsFree (.ref z)) Q E s := by
  unfold Builtin.SmallTypes.ownedTupleIsFree
  refine wpAny_bind (wpAny_field hz rfl (x := rawInt T) rfl ?_)
  show wpAny _ _ (loadIfAlive ((T : Int).toNat) >>= _) _ _ _
  rw [Int.toNat_natCast]
  refine wpAny_bind (PySem.W.kdx_alive hT ?_)
  simp only [Option.isNone_some, Bool.false_eq_true, if_false]
  refine wpAny_bind (wpAny_field hz rfl (x := .bool f) rfl ?_)
  cases f with
  | true =>
    rw [if_neg (show ¬ ((Value.bool true != Value.bool true) = true) from Bool.false_ne_true)]
    exact wpAny_pure (h s.heap hz (Heap.SameBut.refl _ _))
  | false =>
    rw [if_pos (show (Value.bool false != Value.bool true) = true from rfl)]
    exact wpAny_bind (wpAny_setField_rec hz (by simp) fun g1 hz1 hs1 => wpAny_pure (h g1 hz1 hs1))
/-- the next pair, while the first tuple is kept -/
theorem zn_held {T : Addr} {f : Bool} {oT : Obj} {Q : Value → Shared → Prop} (S : ZipSep2 z TI TO i1 i2 fp1 fp2) (D1 : Draws prog w A i1 fp1 n1 P1 St1) (D2 : Draws prog w A i2 fp2 n2 P2 St2)
    (hz : ZAt st s.heap z TI TO (rawInt T) (.bool f)) (hT : s.heap.get? T = some oT) (hTI : IsTupOf2 s.heap TI (.ref i1) (.ref i2)) (st1 : St1 i s.heap) (st2 : St2 i s.heap) (hlt1 : i < n1) (hlt2 : i < n2)
    (hQ : ∀ x1 x2 h' tk, P1 i x1 → P2 i x2 → ZAt st h' z TI TO (rawInt T) (.bool true) → St1 (i + 1) h' → St2 (i + 1) h' → IsTupOf2 h' s.heap.objs.size x1 x2 → h'.objs.size = s.heap.objs.size + 1 →
      (∀ c o, c ≠ z → c ≠ i1 → c ≠ i2 → s.heap.get? c = some o → h'.get? c = some o) → Q (.ref s.heap.objs.size) { s with heap := h', toks := tk }) :
    wpAny (model prog w) A (Builtin.«zip.__next__» ⟨[.ref z], []⟩) (fun fin s' => ∃ v, fin = .done (.ret v) ∧ Q v s') E s := by
  obtain ⟨hp, g, d, tk0, os⟩ := s
  show wpAny _ _ (field (.ref z) 2 >>= _) _ _ _
  refine wpAny_bind (wpAny_field hz rfl (x := .bool st) rfl ?_)
  show wpAny _ _ (field (.ref z) 3 >>= _) _ _ _
  refine wpAny_bind (wpAny_field hz rfl (x := .ref TI) rfl ?_)
  refine wpAny_bind (wpAny_seqItems hTI rfl ?_)
  show wpAny _ _ (Builtin.SmallTypes.ownedTupleIsFree (.ref z) >>= _) _ _ _
  refine wpAny_bind (held_look hz hT fun g0 hz0 hs0 => ?_)
  replace hs0 : Heap.SameBut z hp g0 := hs0
  simp only [Bool.false_eq_true, if_false]
  refine wpAny_bind ?_
  rw [← Array.forIn_toList]
  simp only [List.forIn_cons, List.forIn_nil]
  refine wpAny_bind (wpAny_bind (wpAny_holding ?_))
  show wpAny _ _ (drawZ (Value.bool st == Value.bool true) (.ref i1)) _ _ ⟨g0, g, d, tk0, os⟩
  refine draw_item D1 hlt1 (D1.over st1 hs0 S.zf1) fun x1 p1 tk1 hx1 sn1 hp1 => ?_
  replace hp1 : Heap.SameBut i1 g0 p1 := hp1
  refine wpAny_pure ?_
  refine wpAny_bind (wpAny_bind (wpAny_holding ?_))
  show wpAny _ _ (drawZ (Value.bool st == Value.bool true) (.ref i2)) _ _ ⟨p1, g, d, tk1, os⟩
  refine draw_item D2 hlt2 (D2.over (D2.over st2 hs0 S.zf2) hp1 S.sep1_2) fun x2 p2 tk2 hx2 sn2 hp2 => ?_
  replace hp2 : Heap.SameBut i2 p1 p2 := hp2
  refine wpAny_pure (wpAny_pure ?_)
  show wpAny _ _ (newTuple [x1, x2] >>= _) _ _ ⟨p2, g, d, tk2, os⟩
  refine wpAny_bind (wpAny_newTuple ?_)
  have hsz : p2.objs.size = hp.objs.size := by rw [hp2.1, hp1.1, hs0.1]
  have hz3 : ZAt st p2 z TI TO (rawInt T) (.bool true) := hp2.extBut _ _ S.zi2 (hp1.extBut _ _ S.zi1 hz0)
  have hk : ∀ c o, c ≠ z → c ≠ i1 → c ≠ i2 → hp.get? c = some o → p2.get? c = some o := fun c o cz c1 c2 e => hp2.extBut _ _ c2 (hp1.extBut _ _ c1 (hs0.extBut _ _ cz e))
  have hj1 : St1 (i + 1) p2 := D1.over sn1 hp2 S.sep2_1
  refine wpAny_pure ⟨_, rfl, ?_⟩
  show Q (.ref p2.objs.size) ⟨p2.push { cls := .type "tuple", data := .seq #[x1, x2] }, g, d, tk2, os⟩
  have hpp : IsTupOf2 (p2.push { cls := .type "tuple", data := .seq #[x1, x2] }) p2.objs.size x1 x2 := Heap.get?_push_size _ rfl
  have hz4 : (p2.push { cls := .type "tuple", data := .seq #[x1, x2] }).objs.size = p2.objs.size + 1 := Heap.size_push ..
  rw [hsz] at hpp hz4 ⊢
  exact hQ x1 x2 _ tk2 hx1 hx2 (Heap.get?_push_of_some _ hz3) (D1.frame _ _ _ hj1 fun b hb o e => Heap.get?_push_of_some _ e) (D2.frame _ _ _ sn2 fun b hb o e => Heap.get?_push_of_some _ e) hpp hz4 fun c o cz c1 c2 e => Heap.get?_push_of_some _ (hk c o cz c1 c2 e)
/-- no pair any more, its tuple free -/
theorem zn_end_free {Q : Fin → Shared → Prop} (hh : A.handled = none) (S : ZipSep2 z TI TO i1 i2 fp1 fp2) (D1 : Draws prog w A i1 fp1 n1 P1 St1) (D2 : Draws prog w A i2 fp2 n2 P2 St2)
    (hz : ZAt st s.heap z TI TO .none (.bool false)) (hTI : IsTupOf2 s.heap TI (.ref i1) (.ref i2)) (hTO : IsTupOf2 s.heap TO a1 a2) (st1 : St1 i s.heap) (st2 : St2 i s.heap) (hle1 : i ≤ n1) (hle2 : i ≤ n2) (hend : i = n1 ∨ i = n2) (hst : st = true → n1 = n2)
    (hE : ∀ h' tk e, (∀ c o, c ≠ z → c ≠ TO → c ≠ i1 → c ≠ i2 → s.heap.get? c = some o → h'.get? c = some o) → (∃ o, h'.get? e = some o ∧ o.cls = .type "StopIteration") → E (.ref e) { s with heap := h', toks := tk }) :
    wpAny (model prog w) A (Builtin.«zip.__next__» ⟨[.ref z], []⟩) Q E s := by
  cases st with
  | false => exact zipD2_next_end S D1 D2 hz hTI hTO st1 st2 hle1 hle2 hend hE
  | true =>
    have e12 := hst rfl
    have hi1 : i = n1 := by omega
    have hi2 : i = n2 := by omega
    obtain ⟨hp, g, d, tk0, os⟩ := s
    show wpAny _ _ (field (.ref z) 2 >>= _) _ _ _
    refine wpAny_bind (wpAny_field hz rfl (x := .bool true) rfl ?_)
    show wpAny _ _ (field (.ref z) 3 >>= _) _ _ _
    refine wpAny_bind (wpAny_field hz rfl (x := .ref TI) rfl ?_)
    refine wpAny_bind (wpAny_seqItems hTI rfl ?_)
    show wpAny _ _ (Builtin.SmallTypes.ownedTupleIsFree (.ref z) >>= _) _ _ _
    refine wpAny_bind ?_
    unfold Builtin.SmallTypes.ownedTupleIsFree
    refine wpAny_bind (wpAny_field hz rfl (x := .none) rfl (wpAny_pure ?_))
    simp only [if_true]
    refine wpAny_bind (wpAny_rule (wpAny_bind (wpAny_field hz rfl (x := .ref TO) rfl ?_)))
    refine wpAny_bind (wpAny_setField_rec hz (by simp) fun g0 hz0 hs0 => ?_)
    replace hs0 : Heap.SameBut z hp g0 := hs0
    refine wpAny_bind ?_
    simp only [List.zipIdx_cons, List.zipIdx_nil, List.forIn_cons, List.forIn_nil]
    refine wpAny_bind (wpAny_bind (wpAny_onRaise ?_))
    show wpAny _ _ (Builtin.SmallTypes.nextOrEnd (.ref i1)) _ _ ⟨g0, g, d, tk0, os⟩
    refine orEnd_done D1 (by rw [← hi1]; exact D1.over st1 hs0 S.zf1) fun p1 hp1 => ?_
    replace hp1 : Heap.ExtBut i1 g0 p1 := hp1
    have hz1 : ZAt true p1 z TI TO .ellipsis (.bool false) := hp1 _ _ S.zi1 hz0
    refine wpAny_bind (wpAny_setField_rec (s := ⟨p1, g, d, tk0, os⟩) hz1 (by simp) fun g1 hz2 hs1 => ?_)
    replace hs1 : Heap.SameBut z p1 g1 := hs1
    refine wpAny_bind ?_
    refine wpAny_bind (m := forIn (((Value.ref i2, 1) :: []) : List (Value × Nat)) _ _) ?_
    rw [List.forIn_cons]
    refine wpAny_bind (wpAny_bind (orEnd_done (s := ⟨g1, g, d, tk0, os⟩) D2 (by rw [← hi2]; exact D2.over (D2.frame _ _ _ (D2.over st2 hs0 S.zf2) fun b hb o e => hp1 b o (fun q => S.sep1_2 (q ▸ hb)) e) hs1 S.zf2) fun p2 hp2 => ?_))
    replace hp2 : Heap.ExtBut i2 g1 p2 := hp2
    refine wpAny_pure ?_
    show wpAny _ _ (pure PUnit.unit) _ _ _
    refine wpAny_pure (wpAny_bind (wpAny_rule ?_))
    refine stop_raised (s := ⟨p2, g, d, tk0, os⟩) hh fun h' e hk he => ?_
    exact hE h' tk0 e (fun c o cz cT c1 c2 x => hk _ _ (hp2 _ _ c2 (hs1.extBut _ _ cz (hp1 _ _ c1 (hs0.extBut _ _ cz x))))) he
/-- no pair any more, the first tuple kept -/
theorem zn_end_held {T : Addr} {f : Bool} {oT : Obj} {Q : Fin → Shared → Prop} (hh : A.handled = none) (S : ZipSep2 z TI TO i1 i2 fp1 fp2) (D1 : Draws prog w A i1 fp1 n1 P1 St1) (D2 : Draws prog w A i2 fp2 n2 P2 St2)
    (hz : ZAt st s.heap z TI TO (rawInt T) (.bool f)) (hT : s.heap.get? T = some oT) (hTI : IsTupOf2 s.heap TI (.ref i1) (.ref i2)) (st1 : St1 i s.heap) (st2 : St2 i s.heap) (hle1 : i ≤ n1) (hle2 : i ≤ n2) (hend : i = n1 ∨ i = n2) (hst : st = true → n1 = n2)
    (hE : ∀ h' tk e, (∀ c o, c ≠ z → c ≠ i1 → c ≠ i2 → s.heap.get? c = some o → h'.get? c = some o) → (∃ o, h'.get? e = some o ∧ o.cls = .type "StopIteration") → E (.ref e) { s with heap := h', toks := tk }) :
    wpAny (model prog w) A (Builtin.«zip.__next__» ⟨[.ref z], []⟩) Q E s := by
  obtain ⟨hp, g, d, tk0, os⟩ := s
  show wpAny _ _ (field (.ref z) 2 >>= _) _ _ _
  refine wpAny_bind (wpAny_field hz rfl (x := .bool st) rfl ?_)
  show wpAny _ _ (field (.ref z) 3 >>= _) _ _ _
  refine wpAny_bind (wpAny_field hz rfl (x := .ref TI) rfl ?_)
  refine wpAny_bind (wpAny_seqItems hTI rfl ?_)
  show wpAny _ _ (Builtin.SmallTypes.ownedTupleIsFree (.ref z) >>= _) _ _ _
  refine wpAny_bind (held_look hz hT fun g0 hz0 hs0 => ?_)
  replace hs0 : Heap.SameBut z hp g0 := hs0
  simp only [Bool.false_eq_true, if_false]
  refine wpAny_bind ?_
  rw [← Array.forIn_toList]
  simp only [List.forIn_cons, List.forIn_nil]
  refine wpAny_bind (wpAny_bind (wpAny_holding ?_))
  cases st with
  | false =>
    show wpAny _ _ (Builtin.SmallTypes.nextOf (.ref i1) >>= fun v => pure (some v)) _ _ ⟨g0, g, d, tk0, os⟩
    by_cases hlt1 : i < n1
    · refine wpAny_bind (D1.item i _ _ _ hlt1 (D1.over st1 hs0 S.zf1) fun x1 p1 tk1 hx1 sn1 hp1 => wpAny_pure (wpAny_pure ?_))
      replace hp1 : Heap.SameBut i1 g0 p1 := hp1
      have hi2 : i = n2 := by omega
      refine wpAny_bind (wpAny_bind (wpAny_holding ?_))
      show wpAny _ _ (Builtin.SmallTypes.nextOf (.ref i2) >>= fun v => pure (some v)) _ _ ⟨p1, g, d, tk1, os⟩
      refine wpAny_bind (D2.done ⟨p1, g, d, tk1, os⟩ _ _ (by rw [← hi2]; exact D2.over (D2.over st2 hs0 S.zf2) hp1 S.sep1_2) fun q e hq he => ?_)
      replace hq : Heap.ExtBut i2 p1 q := hq
      exact hE q tk1 e (fun c o cz c1 c2 x => hq _ _ c2 (hp1.extBut _ _ c1 (hs0.extBut _ _ cz x))) he
    · have hi1 : i = n1 := by omega
      refine wpAny_bind (D1.done ⟨g0, g, d, tk0, os⟩ _ _ (by rw [← hi1]; exact D1.over st1 hs0 S.zf1) fun q e hq he => ?_)
      replace hq : Heap.ExtBut i1 g0 q := hq
      exact hE q tk0 e (fun c o cz c1 c2 x => hq _ _ c1 (hs0.extBut _ _ cz x)) he
  | true =>
    have e12 := hst rfl
    have hi1 : i = n1 := by omega
    have hi2 : i = n2 := by omega
    show wpAny _ _ (Builtin.SmallTypes.nextOrEnd (.ref i1)) _ _ ⟨g0, g, d, tk0, os⟩
    refine orEnd_done D1 (by rw [← hi1]; exact D1.over st1 hs0 S.zf1) fun p1 hp1 => ?_
    replace hp1 : Heap.ExtBut i1 g0 p1 := hp1
    refine wpAny_bind ?_
    refine wpAny_bind (m := forIn (((Value.ref i2, 1) :: []) : List (Value × Nat)) _ _) ?_
    rw [List.forIn_cons]
    refine wpAny_bind (wpAny_bind (orEnd_done (s := ⟨p1, g, d, tk0, os⟩) D2 (by rw [← hi2]; exact D2.frame _ _ _ (D2.over st2 hs0 S.zf2) fun b hb o e => hp1 b o (fun q => S.sep1_2 (q ▸ hb)) e) fun p2 hp2 => ?_))
    replace hp2 : Heap.ExtBut i2 p1 p2 := hp2
    refine wpAny_pure ?_
    show wpAny _ _ (pure PUnit.unit) _ _ _
    refine wpAny_pure (wpAny_bind (wpAny_rule ?_))
    refine stop_raised (s := ⟨p2, g, d, tk0, os⟩) hh fun h' e hk he => ?_
    exact hE h' tk0 e (fun c o cz c1 c2 x => hk _ _ (hp2 _ _ c2 (hp1 _ _ c1 (hs0.extBut _ _ cz x)))) he
end
end Ps

set_option maxHeartbeats 2000000
/-! PsZip2: zip is made. -/
namespace Ps
open PySem
theorem typeCall_zip_s (a b c : Value) : checkTypeCall "zip" ⟨[a, b], [(Str.ofString "strict", c)]⟩ = pure () := by kernel_rfl
theorem newCall_zip_s (a b c : Value) : checkBuiltinCall "zip.__new__" ⟨[.type "zip", a, b], [(Str.ofString "strict", c)]⟩ = pure () := by kernel_rfl
theorem args_init_s (obj a b c : Value) : argsOk "object.__init__" ⟨[obj, a, b], [(Str.ofString "strict", c)]⟩ := by unfold argsOk; kernel_rfl
/-- the keywords of a zip -/
def kwZ (st : Bool) : List (Str × Value) := if st then [(Str.ofString "strict", .bool true)] else []
abbrev zh1 (h : Heap) (o1 : Obj) : Heap := h.push o1
abbrev zh2 (h : Heap) (o1 o2 : Obj) : Heap := (zh1 h o1).push o2
abbrev zh3 (h : Heap) (o1 o2 : Obj) : Heap := (zh2 h o1 o2).push { cls := .type "tuple", data := .seq #[.ref h.objs.size, .ref (zh1 h o1).objs.size] }
abbrev zh4 (h : Heap) (o1 o2 : Obj) : Heap := (zh3 h o1 o2).push { cls := .type "tuple", data := .seq #[.none, .none] }
abbrev zh5 (st : Bool) (h : Heap) (o1 o2 : Obj) : Heap := (zh4 h o1 o2).push { cls := .type "zip", data := .fields #[.none, .bool false, .bool st, .ref (zh2 h o1 o2).objs.size, .ref (zh3 h o1 o2).objs.size] }
theorem meets_zipB {v1 v2 : Value} {o1 o2 : Obj} {H1 H2 : Heap → Prop} (st : Bool) (B1 : Begins v1 o1 H1) (B2 : Begins v2 o2 H2) :
    Meets (Builtin.«zip.__new__» ⟨[.type "zip", v1, v2], kwZ st⟩) (fun _ R s => H1 s.heap ∧ H2 s.heap ∧
      R (.ok (.ret (.ref (zh4 s.heap o1 o2).objs.size))) { s with heap := zh5 st s.heap o1 o2 }) :=
  .of_wp fun prog w A R s h => by
    obtain ⟨hp, g, d, tk, os⟩ := s; obtain ⟨h1, h2, h⟩ := h
    have hsub := sub_zip
    have q1 : ∀ {A' : Around} {E : Value → Shared → Prop} {Q : Value → Shared → Prop}, Q (.ref hp.objs.size) ⟨hp.push o1, g, d, tk, os⟩ → wpAny (model prog w) A' (pyIter v1) Q E ⟨hp, g, d, tk, os⟩ :=
      fun q => B1.iter prog w _ _ ⟨hp, g, d, tk, os⟩ _ h1 q
    have q2 : ∀ {A' : Around} {E : Value → Shared → Prop} {Q : Value → Shared → Prop}, Q (.ref (hp.push o1).objs.size) ⟨(hp.push o1).push o2, g, d, tk, os⟩ → wpAny (model prog w) A' (pyIter v2) Q E ⟨hp.push o1, g, d, tk, os⟩ :=
      fun q => B2.iter prog w _ _ ⟨hp.push o1, g, d, tk, os⟩ _ (B2.keeps _ _ h2 fun b o e => Heap.get?_push_of_some _ e) q
    have e2 : (Str.ofString "strict" != ("strict" : Str)) = false := by decide +kernel
    cases st with
    | false =>
      simp only [kwZ, Bool.false_eq_true, if_false]
      wp_walk using q1, q2
      exact ⟨_, rfl, h⟩
    | true =>
      simp only [kwZ, if_true]
      wp_walk using q1, q2
      exact ⟨_, rfl, h⟩
section
variable {prog : Program} {w : World} {A : Around} {E : Value → Shared → Prop} {s : Shared}
theorem zip_begins {v1 v2 : Value} {o1 o2 : Obj} {H1 H2 : Heap → Prop} {Q : Value → Shared → Prop} (st : Bool) (B1 : Begins v1 o1 H1) (B2 : Begins v2 o2 H2) (h1 : H1 s.heap) (h2 : H2 s.heap)
    (h : ∀ h', ZAt st h' (s.heap.objs.size + 4) (s.heap.objs.size + 2) (s.heap.objs.size + 3) .none (.bool false) → IsTupOf2 h' (s.heap.objs.size + 2) (.ref s.heap.objs.size) (.ref (s.heap.objs.size + 1)) →
      IsTupOf2 h' (s.heap.objs.size + 3) .none .none → h'.get? s.heap.objs.size = some o1 → h'.get? (s.heap.objs.size + 1) = some o2 → h'.objs.size = s.heap.objs.size + 5 →
      (∀ c o, s.heap.get? c = some o → h'.get? c = some o) → Q (.ref (s.heap.objs.size + 4)) { s with heap := h' }) :
    wpAny (model prog w) A (call (.type "zip") [v1, v2] (kwZ st)) Q E s := by
  refine callType_newKw F.called_zip (by decide) (by cases st; exact F.typeCall_zip_2 _ _; exact typeCall_zip_s _ _ _) (by cases st; exact F.newCall_zip_2 _ _; exact newCall_zip_s _ _ _)
    (fun obj => by cases st; exact F.args_object_init_3 obj _ _; exact args_init_s obj _ _ _) F.entry_zip_new (meets_zipB st B1 B2) ⟨h1, h2, ?_⟩
  have z1 : (zh1 s.heap o1).objs.size = s.heap.objs.size + 1 := Heap.size_push ..
  have z2 : (zh2 s.heap o1 o2).objs.size = s.heap.objs.size + 2 := by rw [Heap.size_push, z1]
  have z3 : (zh3 s.heap o1 o2).objs.size = s.heap.objs.size + 3 := by rw [Heap.size_push, z2]
  have z4 : (zh4 s.heap o1 o2).objs.size = s.heap.objs.size + 4 := by rw [Heap.size_push, z3]
  have z5 : (zh5 st s.heap o1 o2).objs.size = s.heap.objs.size + 5 := by rw [Heap.size_push, z4]
  have g5 : (zh5 st s.heap o1 o2).get? (zh4 s.heap o1 o2).objs.size = some _ := Heap.get?_push_size _ rfl
  have g4 : (zh5 st s.heap o1 o2).get? (zh3 s.heap o1 o2).objs.size = some _ := Heap.get?_push_of_some _ (Heap.get?_push_size _ rfl)
  have g3 : (zh5 st s.heap o1 o2).get? (zh2 s.heap o1 o2).objs.size = some _ := Heap.get?_push_of_some _ (Heap.get?_push_of_some _ (Heap.get?_push_size _ rfl))
  have g2 : (zh5 st s.heap o1 o2).get? (zh1 s.heap o1).objs.size = some o2 := Heap.get?_push_of_some _ (Heap.get?_push_of_some _ (Heap.get?_push_of_some _ (Heap.get?_push_size _ B2.free)))
  have g1 : (zh5 st s.heap o1 o2).get? s.heap.objs.size = some o1 := Heap.get?_push_of_some _ (Heap.get?_push_of_some _ (Heap.get?_push_of_some _ (Heap.get?_push_of_some _ (Heap.get?_push_size _ B1.free))))
  show _ ∧ _
  rw [z2, z3, z4] at g5
  rw [z1, z2] at g3
  rw [z3] at g4
  rw [z1] at g2
  rw [z4]
  exact ⟨⟨_, g5, rfl⟩, h _ g5 g3 g4 g1 g2 z5 fun c o x =>
    Heap.get?_push_of_some _ (Heap.get?_push_of_some _ (Heap.get?_push_of_some _ (Heap.get?_push_of_some _ (Heap.get?_push_of_some _ x))))⟩
end
section
variable {prog : Program} {w : World} {A : Around} {E : Value → Shared → Prop} {s : Shared} {z TI TO i1 i2 : Addr} {fp1 fp2 : List Addr} {n1 n2 i : Nat} {P1 P2 : Nat → Value → Prop} {St1 St2 : Nat → Heap → Prop} {a1 a2 : Value} {st : Bool}
/-- zip's cells: its tuple free, or the first one kept by others than K -/
def ZOk (st : Bool) (z TI TO i1 i2 : Addr) (K : Addr → Prop) (h : Heap) : Prop := IsTupOf2 h TI (.ref i1) (.ref i2) ∧ ((ZAt st h z TI TO .none (.bool false) ∧ ∃ a b, IsTupOf2 h TO a b) ∨
  ∃ (T : Addr) (f : Bool) (oT : Obj), ZAt st h z TI TO (rawInt (T : Nat)) (.bool f) ∧ h.get? T = some oT ∧ K T)
theorem ZOk.type {K : Addr → Prop} (h : ZOk st z TI TO i1 i2 K s.heap) : s.TypeIs (.ref z) "zip" := by
  rcases h.2 with ⟨e, _⟩ | ⟨_, _, _, e, _⟩
  · exact ⟨_, e, rfl⟩
  · exact ⟨_, e, rfl⟩
/-- the next pair is kept -/
theorem zk_item {K : Addr → Prop} {Q : Option Value → Shared → Prop} (S : ZipSep2 z TI TO i1 i2 fp1 fp2) (D1 : Draws prog w A.in1 i1 fp1 n1 P1 St1) (D2 : Draws prog w A.in1 i2 fp2 n2 P2 St2)
    (hz : ZOk st z TI TO i1 i2 K s.heap) (hK : ∀ T, K T → T ≠ z ∧ T ≠ i1 ∧ T ≠ i2) (hN : K s.heap.objs.size) (st1 : St1 i s.heap) (st2 : St2 i s.heap) (hlt1 : i < n1) (hlt2 : i < n2)
    (hQ : ∀ x1 x2 h' tk, P1 i x1 → P2 i x2 → ZOk st z TI TO i1 i2 K h' → St1 (i + 1) h' → St2 (i + 1) h' → IsTupOf2 h' s.heap.objs.size x1 x2 → h'.objs.size = s.heap.objs.size + 1 →
      (∀ c o, c ≠ z → c ≠ TO → c ≠ i1 → c ≠ i2 → s.heap.get? c = some o → h'.get? c = some o) → Q (some (.ref s.heap.objs.size)) { s with heap := h', toks := tk }) :
    wpAny (model prog w) A (pyNext (.ref z)) Q E s := by
  have hTy := hz.type
  obtain ⟨hTI, hz⟩ := hz
  unfold pyNext
  rcases hz with ⟨hz, a, b, hTO⟩ | ⟨T, f, oT, hz, hT, kT⟩
  · refine wpAny_bind (wpAny_attempt (wpAny_callSpecial?_slot (name := Str.ofString "__next__") hTy F.slot_zip_next
      (wpAny_call_entry F.slot_zip_next hTy F.entry_zip_next (zn_free S D1 D2 hz hTI hTO st1 st2 hlt1 hlt2 fun x1 x2 h' tk y1 y2 b1 b2 d1 d2 b5 b6 b7 => wpAny_pure ?_) (F.args_zip_next_1 _))))
    exact hQ x1 x2 h' tk y1 y2 ⟨b7 _ _ S.TIz S.TITO S.TIi1 S.TIi2 hTI, .inr ⟨_, _, _, b1, b5, hN⟩⟩ d1 d2 b5 b6 b7
  · obtain ⟨k1, k2, k3⟩ := hK T kT
    refine wpAny_bind (wpAny_attempt (wpAny_callSpecial?_slot (name := Str.ofString "__next__") hTy F.slot_zip_next
      (wpAny_call_entry F.slot_zip_next hTy F.entry_zip_next (zn_held S D1 D2 hz hT hTI st1 st2 hlt1 hlt2 fun x1 x2 h' tk y1 y2 b1 d1 d2 b5 b6 b7 => wpAny_pure ?_) (F.args_zip_next_1 _))))
    exact hQ x1 x2 h' tk y1 y2 ⟨b7 _ _ S.TIz S.TIi1 S.TIi2 hTI, .inr ⟨_, _, _, b1, b7 _ _ k1 k2 k3 hT, kT⟩⟩ d1 d2 b5 b6 fun c o c1 _ c3 c4 e => b7 c o c1 c3 c4 e
theorem zk_end {K : Addr → Prop} {Q : Option Value → Shared → Prop} (hh : A.handled = none) (S : ZipSep2 z TI TO i1 i2 fp1 fp2) (D1 : Draws prog w A.in1 i1 fp1 n1 P1 St1) (D2 : Draws prog w A.in1 i2 fp2 n2 P2 St2)
    (hz : ZOk st z TI TO i1 i2 K s.heap) (st1 : St1 i s.heap) (st2 : St2 i s.heap) (hle1 : i ≤ n1) (hle2 : i ≤ n2) (hend : i = n1 ∨ i = n2) (hst : st = true → n1 = n2)
    (hQ : ∀ h' tk, (∀ c o, c ≠ z → c ≠ TO → c ≠ i1 → c ≠ i2 → s.heap.get? c = some o → h'.get? c = some o) → Q none { s with heap := h', toks := tk }) :
    wpAny (model prog w) A (pyNext (.ref z)) Q E s := by
  have hTy := hz.type
  obtain ⟨hTI, hz⟩ := hz
  have stop : ∀ {h' tk e}, (∃ o, Heap.get? h' e = some o ∧ o.cls = .type "StopIteration") → (∀ c o, c ≠ z → c ≠ TO → c ≠ i1 → c ≠ i2 → s.heap.get? c = some o → h'.get? c = some o) →
      wpAny (model prog w) A (do if ← isInstance (.ref e) (.type "StopIteration") then pure none else throw (.ref e)) Q E { s with heap := h', toks := tk } := fun {h' tk e} he hk => by
    obtain ⟨o, ho, hc⟩ := he
    exact wpAny_bind (wpAny_isInstance (T := "StopIteration") (b := true) ⟨o, ho, hc⟩ isSubtype_stop (wpAny_pure (hQ _ _ hk)))
  unfold pyNext
  rcases hz with ⟨hz, a, b, hTO⟩ | ⟨T, f, oT, hz, hT, kT⟩
  · exact wpAny_bind (wpAny_attempt (wpAny_callSpecial?_slot (name := Str.ofString "__next__") hTy F.slot_zip_next
      (wpAny_call_entry F.slot_zip_next hTy F.entry_zip_next (zn_end_free hh S D1 D2 hz hTI hTO st1 st2 hle1 hle2 hend hst fun h' tk e hk he => stop he hk) (F.args_zip_next_1 _))))
  · exact wpAny_bind (wpAny_attempt (wpAny_callSpecial?_slot (name := Str.ofString "__next__") hTy F.slot_zip_next
      (wpAny_call_entry F.slot_zip_next hTy F.entry_zip_next (zn_end_held hh S D1 D2 hz hT hTI st1 st2 hle1 hle2 hend hst fun h' tk e hk he => stop he fun c o c1 _ c3 c4 x => hk c o c1 c3 c4 x) (F.args_zip_next_1 _))))
end
end Ps

set_option maxHeartbeats 1000000
/-! PsStmt: targets, comprehensions, statements. -/
namespace Ps
open PySem L2

/-! ### targets -/
def Only (is : List Nat) (σ σ' : L2.St) : Prop := σ'.length = σ.length ∧ ∀ (i : Nat), i ∉ is → σ'[i]? = σ[i]?
theorem Only.refl (is : List Nat) (σ : L2.St) : Only is σ σ := ⟨rfl, fun _ _ => rfl⟩
theorem Only.trans {is : List Nat} {a b c : L2.St} (h : Only is a b) (h' : Only is b c) : Only is a c := ⟨h'.1.trans h.1, fun i n => (h'.2 i n).trans (h.2 i n)⟩
theorem Only.mono {is js : List Nat} {a b : L2.St} (h : Only is a b) (s : ∀ i ∈ is, i ∈ js) : Only js a b := ⟨h.1, fun i n => h.2 i fun z => n (s i z)⟩
theorem wipe_get {σ : L2.St} {i : Nat} : ∀ {vs : List Nat}, i ∈ vs → i < σ.length → (wipe σ vs)[i]? = some none
  | [], h, _ => by cases h
  | v :: vs, h, l => by
    unfold wipe
    by_cases e : v = i
    · subst e; rw [List.getElem?_set_self (by rw [wipe_length]; exact l)]
    · rw [List.getElem?_set_ne e]
      exact wipe_get ((List.mem_cons.mp h).resolve_left (fun z => e z.symm)) l
theorem Only.wipe {vs : List Nat} {σ σ' : L2.St} (h : Only vs σ σ') : L2.wipe σ' vs = L2.wipe σ vs := by
  apply List.ext_getElem?
  intro i
  by_cases hi : i ∈ vs
  · by_cases l : i < σ.length
    · rw [wipe_get hi l, wipe_get hi (by rw [h.1]; exact l)]
    · have l' := h.1
      rw [List.getElem?_eq_none (by rw [wipe_length]; omega), List.getElem?_eq_none (by rw [wipe_length]; omega)]
  · rw [wipe_out hi, wipe_out hi]
    exact h.2 i hi
theorem wipe_wipe (σ : L2.St) (vs : List Nat) : L2.wipe (L2.wipe σ vs) vs = L2.wipe σ vs := by
  refine Only.wipe ⟨wipe_length σ vs, fun i n => wipe_out n⟩
theorem SloR.wipe {w : Wd} {m : MP} {H : Hp} {σ : L2.St} {sl : Slots} (h : SloR w m H σ sl) : ∀ vs : List Nat, SloR w m H (L2.wipe σ vs) (wipeS sl vs)
  | [] => h
  | v :: vs => by
    have ih := SloR.wipe h vs
    refine ⟨by simp [L2.wipe, wipeS, ih.len], fun i x q => ?_⟩
    unfold wipeS at q
    unfold L2.wipe
    by_cases e : v = i
    · subst e
      by_cases l : v < (wipeS sl vs).length
      · rw [List.getElem?_set_self l] at q; cases q
      · rw [List.getElem?_eq_none (by simpa using l)] at q; cases q
    · rw [List.getElem?_set_ne e] at q ⊢
      exact ih.at_ i x q
mutual
def slotsT : Tg → List Nat
  | .nm i => [i]
  | .tp ts => slotsTs ts
def slotsTs : List Tg → List Nat
  | [] => []
  | t :: ts => slotsT t ++ slotsTs ts
end
/-- a target's rule: it does as asgT does -/
def GOk (X : Cx) (tg : Expr) (t : Tg) : Prop := ∃ g, PG X tg g ∧ ∀ m H σ sl v u sl' (Q : L2.St → Hp → Prop), SloR (Cx.wd X) m H σ sl → AR (Cx.wd X) m H v u → asgT t v sl = some sl' → (∀ σ', SloR (Cx.wd X) m H σ' sl' → Only (slotsT t) σ σ' → Q σ' H) → g u σ H Q
def GsOk (X : Cx) (tgs : List Expr) (ts : List Tg) : Prop := ∃ g, PGs X tgs g ∧ ∀ m H σ sl vs us sl' (Q : L2.St → Hp → Prop), SloR (Cx.wd X) m H σ sl → VRs (Cx.wd X) m H vs us → asgTs ts vs sl = some sl' → (∀ σ', SloR (Cx.wd X) m H σ' sl' → Only (slotsTs ts) σ σ' → Q σ' H) → g us σ H Q
section
variable {X : Cx} {pos : Pos}
theorem g_name {i : Nat} {x : Str} (hN : X.N.Nodup) (hi : X.N[i]? = some x) (hx : Loc X.env.scope x) (hf : X.fn x = true ∨ X.env.scope.names.lookup x = some .local) : GOk X (.Name x pos) (.nm i) := by
  refine ⟨gName i, pg_name hN hi hx hf, fun m H σ sl v u sl' Q hs r e k => ?_⟩
  cases e
  refine k _ (hs.set r) ⟨by simp, fun j n => ?_⟩
  have : j ≠ i := by simpa [slotsT] using n
  rw [List.getElem?_set_ne (Ne.symm this)]
theorem gs_nil : GsOk X [] [] := by
  refine ⟨gNil, pgs_nil, fun m H σ sl vs us sl' Q hs r e k => ?_⟩
  cases vs with
  | nil => cases r; cases e; exact ⟨rfl, k σ hs (Only.refl _ _)⟩
  | cons => cases e
theorem gs_cons {tg : Expr} {tgs : List Expr} {t : Tg} {ts : List Tg} (h1 : GOk X tg t) (h2 : GsOk X tgs ts) (hs : (assignEach (tg :: tgs) X.env).map (·.2) = assign tg X.env :: (assignEach tgs X.env).map (·.2)) : GsOk X (tg :: tgs) (t :: ts) := by
  obtain ⟨g1, p1, k1⟩ := h1
  obtain ⟨g2, p2, k2⟩ := h2
  refine ⟨gCons g1 g2, pgs_cons p1 p2 hs, fun m H σ sl vs us sl' Q hs r e k => ?_⟩
  cases r with
  | nil => cases e
  | cons r rs =>
    simp only [asgTs] at e
    split at e
    · rename_i sl1 e1
      refine ⟨_, _, rfl, k1 m H σ sl _ _ sl1 _ hs (.val r) e1 fun σ1 hs1 o1 => ?_⟩
      refine k2 m H σ1 sl1 _ _ sl' _ hs1 rs e fun σ2 hs2 o2 => k σ2 hs2 ?_
      exact (o1.mono fun i z => by simp [slotsTs, z]).trans (o2.mono fun i z => by simp [slotsTs, z])
    · cases e
theorem asgTs_len : ∀ {ts : List Tg} {vs : List Val} {sl sl' : Slots}, asgTs ts vs sl = some sl' → vs.length = ts.length
  | [], [], _, _, _ => rfl
  | [], _ :: _, _, _, e => by cases e
  | _ :: _, [], _, _, e => by cases e
  | t :: ts, v :: vs, sl, sl', e => by
    simp only [asgTs] at e
    split at e
    · exact congrArg Nat.succ (asgTs_len e)
    · cases e
end

/-! ### comprehensions -/
theorem ARs.mon {w : Wd} {m m' : MP} {H H' : Hp} (e : Mon m H m' H') (at_ : ∀ (i : Nat) (o : Option Addr), m.c[i]? = some o → m'.c[i]? = some o ∨ m'.c[i]? = some none) : ∀ {xs : List Val} {us : List V}, ARs w m H xs us → ARs w m' H' xs us
  | _, _, .nil => .nil
  | _, _, .cons h t => .cons (h.mon e at_) (ARs.mon e at_ t)
/-- what is reserved may be forgotten -/
theorem Ext.drop {c c' : List (Option Addr)} {D : Addr} {z : List Addr} {H H' : Hp} (e : Ext ⟨c, D :: z⟩ H ⟨c', D :: z⟩ H') (h : some D ∉ c') (nz : D ∉ z) : Ext ⟨c, z⟩ H ⟨c', z⟩ H' where
  keep := fun a o q n => by
    by_cases ea : a = D
    · rw [e.zk a (by rw [ea]; exact List.mem_cons_self)]; exact q
    · exact e.keep a o q fun y => by
        rcases y with y | y
        · exact n (.inl y)
        · rcases List.mem_cons.mp y with y | y
          · exact ea y
          · exact n (.inr y)
  len := e.len
  at_ := e.at_
  new := fun a q => by
    have ea : a ≠ D := fun y => by
      rcases q with q | q
      · exact h (by rw [← y]; exact q)
      · exact nz (by rw [← y]; exact q)
    rcases e.new a (q.imp id fun y => List.mem_cons_of_mem _ y) with y | y
    · rcases y with y | y
      · exact .inl (.inl y)
      · rcases List.mem_cons.mp y with y | y
        · exact absurd y ea
        · exact .inl (.inr y)
    · exact .inr y
  z := rfl
  zk := fun a q => e.zk a (List.mem_cons_of_mem _ q)
theorem Ext.at_new {m m' : MP} {H H' : Hp} {D : Addr} {o : HO} (e : Ext m H m' H') (n : H D = none) (nz : D ∉ m.z) : Ext m H m' (upd H' D o) :=
  ⟨fun a u h k => by rw [upd_ne (ne_of_none h n)]; exact e.keep a u h k, e.len, e.at_, e.new, e.z, fun a h => by rw [upd_ne (fun y => nz (by rw [← y]; exact h))]; exact e.zk a h⟩
theorem idAt {m : MP} : ∀ (i : Nat) (o : Option Addr), m.c[i]? = some o → m.c[i]? = some o ∨ m.c[i]? = some none := fun _ _ h => .inl h
section
variable {X : Cx} {W : WX} {cl : Cl}
abbrev W0 : WX := fun _ _ _ _ => False
/-- the tests of a comprehension -/
abbrev STs (X : Cx) (W : WX) (cl : Cl) (ifs : List Expr) (ifs' : List E) : Prop := PTs X ifs fun σ H Q => ∃ sl m cs, SloR (Cx.wd X) m H σ sl ∧ CsR (Cx.wd X) m H cs ∧ Sat (Cx.wd X) (fun c d H' => W c d σ H') (tests cl ifs' sl cs) m H fun b _ _ H' => Q b H'
theorem ts_nil : STs X W cl [] [] := ⟨fun pins s σ H Q I ⟨sl, m, cs, hs, hc, st⟩ => pts_nil.run pins s σ H Q I (st m H (Ext.refl _ _) hc)⟩
theorem ts_one {c : Expr} {c' : E} (h : ST X W cl c c') : STs X W cl [c] [c'] := by
  refine ⟨fun pins s σ H Q I ⟨sl, m, cs, hs, hc, st⟩ => (pts_one h).run pins s σ H Q I ⟨sl, m, cs, hs, hc, ?_⟩⟩
  unfold tst
  simp only [tests] at st
  cases q : ev cl c' sl cs with
  | stuck => rw [q] at st; exact st.elim
  | ex x cs' => rw [q] at st; exact st
  | ok x cs1 =>
    rw [q] at st
    simp only [R.bind_ok] at st ⊢
    cases t : truth cs1 x with
    | none => rw [t] at st; exact st.elim
    | some k => rw [t] at st; cases k <;> exact st
/-- no exception leaves -/
theorem Sat.only {α : Type} {w : Wd} {Ew : XK} {r : R α} {m : MP} {H : Hp} {Q : α → Cells → MP → Hp → Prop} (h : ∃ a cs, r = .ok a cs) (s : Sat w Ew r m H Q) : Sat w (fun _ _ _ => False) r m H Q := by
  obtain ⟨a, cs, rfl⟩ := h
  exact s
theorem lcLoop_none {chk : Cells → Bool} {f : Val → Cells → R (Option Val)} {x : Val} {xs : List Val} {cs : Cells} {acc : List Val} : lcLoop chk f (x :: xs) cs acc = (f x cs).bind fun o cs => match chk cs with
    | false => .stuck
    | true => match o with
      | some v => if noRef v && decide (acc.length < sizeLine) then lcLoop chk f xs cs (acc ++ [v]) else .stuck
      | none => lcLoop chk f xs cs acc := rfl
/-- the core: the run of a comprehension is its reading -/
theorem lc_run {wi : TI} {tgT : Tg} {g : TG} {tt : TT} {elt' : E} {k : ItK} {its ifs : List E} {own : List Nat} {σ : L2.St} {H : Hp} {Q : VK} (hwi : wi = tIt (Cx.wd X) W cl k its)
    (hg : ∀ m H σ sl v u sl' (Q : L2.St → Hp → Prop), SloR (Cx.wd X) m H σ sl → AR (Cx.wd X) m H v u → asgT tgT v sl = some sl' → (∀ σ', SloR (Cx.wd X) m H σ' sl' → Only (slotsT tgT) σ σ' → Q σ' H) → g u σ H Q) (ho : ∀ i ∈ slotsT tgT, i ∈ own)
    (htt : tt = fun σ H Q => ∃ sl m cs, SloR (Cx.wd X) m H σ sl ∧ CsR (Cx.wd X) m H cs ∧ Sat (Cx.wd X) (fun c d H' => W0 c d σ H') (tests cl ifs sl cs) m H fun b _ _ H' => Q b H')
    (h : TSem (Cx.wd X) W cl (.lcomp elt' tgT k its ifs own) σ H Q) : tLc wi g tt (TSem (Cx.wd X) W0 cl elt') own σ H Q := by
  subst hwi htt
  obtain ⟨sl, m, cs, hs, hc, s⟩ := h
  simp only [ev] at s
  refine ⟨sl, m, cs, hs, hc, (Sat.bind s).mono (fun vs cs1 m1 H1 e1 c1 s1 us rs => ?_) fun _ _ _ z => z⟩
  cases qi : itemsOf k vs cs1 with
  | none => rw [qi] at s1; exact s1.elim
  | some xs =>
    rw [qi] at s1
    simp only [R.of_some, R.bind_ok] at s1
    refine ⟨xs, rfl, fun J ⟨G, Y, walk, good, yld⟩ D nD => ?_⟩
    have hs1 := hs.ext e1
    have nm := c1.free nD
    have nc : some D ∉ m1.c := fun y => nm (.inl y)
    have nz : D ∉ m1.z := fun y => nm (.inr y)
    refine lc_it (g := g) (tt := fun σ H Q => ∃ sl m cs, SloR (Cx.wd X) m H σ sl ∧ CsR (Cx.wd X) m H cs ∧ Sat (Cx.wd X) (fun c d H' => W0 c d σ H') (tests cl ifs sl cs) m H fun b _ _ H' => Q b H') (te := TSem (Cx.wd X) W0 cl elt') (vs := own) (σ := σ) (H1 := H1) (D := D) (Qd := fun H => Q (.ref D) H) walk
      (fun i H' => ∃ mc cs' acc ys, Ext m1 H1 ⟨mc, m1.z⟩ H' ∧ CsR (Cx.wd X) ⟨mc, D :: m1.z⟩ H' cs' ∧ H' D = some (.lst ys) ∧ VRs (Cx.wd X) ⟨mc, D :: m1.z⟩ H' acc ys ∧ SloR (Cx.wd X) ⟨mc, D :: m1.z⟩ H' σ sl ∧ ARs (Cx.wd X) ⟨mc, D :: m1.z⟩ H' vs us ∧ itemsOf k vs cs' = some xs ∧
        Sat (Cx.wd X) (fun c d H' => W c d σ H') ((lcLoop (chkOf k vs xs) (fun x cs => match asgT tgT x (wipeS sl own) with
          | none => .stuck
          | some σ' => match tests cl ifs σ' cs with
            | .ok true cs => (match ev cl elt' σ' cs with
              | .ok v cs => .ok (some v) cs
              | _ => .stuck)
            | .ok false cs => .ok none cs
            | _ => .stuck) (xs.drop i) cs' acc).bind fun ys cs => .ok (.lst ys) cs) m1 H1 (QE (Cx.wd X) Q)) ?_ ?_ ?_ ?_
    · have mo : Mon m1 H1 ⟨m1.c, D :: m1.z⟩ (upd H1 D (.lst [])) := fun a o q n => by
        have ea : a ≠ D := ne_of_none q nD
        refine ⟨by rw [upd_ne ea]; exact q, fun y => ?_⟩
        rcases y with y | y
        · exact n (.inl y)
        · rcases List.mem_cons.mp y with y | y
          · exact ea y
          · exact n (.inr y)
      refine ⟨m1.c, cs1, [], [], Ext.alloc nD nm, ?_, upd_same, .nil, hs1.mon mo idAt, rs.mon mo idAt, qi, s1⟩
      refine c1.mon mo (fun a q => upd_ne fun y => nc (by rw [← y]; exact q)) fun a q => ?_
      rcases List.mem_cons.mp q with q | q
      · rw [q, upd_same]; exact ⟨rfl, nc⟩
      · rw [upd_ne fun y => nz (by rw [← y]; exact q)]
        exact c1.res a q
    · rintro i H' hi ⟨mc, cs', acc, ys, e', c', hD, ra, hs', rs', qi', s'⟩
      exact good _ H' cs' c' rs' qi'
    · rintro i u H' H'' hi ⟨mc, cs', acc, ys, e', c', hD, ra, hs', rs', qi', s'⟩ y
      have hx : xs[i]? = some xs[i] := List.getElem?_eq_getElem hi
      obtain ⟨e2, c2, r2⟩ := yld i _ H' cs' u H'' xs[i] c' rs' qi' hx y
      rw [List.drop_eq_getElem_cons hi, lcLoop_none] at s'
      cases qa : asgT tgT xs[i] (wipeS sl own) with
      | none => simp only [qa] at s'; exact s'.elim
      | some sl2 =>
        simp only [qa] at s'
        refine hg _ H'' _ _ _ u sl2 _ ((hs'.ext e2).wipe own) r2 qa fun σ2 hs3 o2 => ⟨?_, ?_⟩
        · rw [(o2.mono ho).wipe, wipe_wipe]
        cases qt : tests cl ifs sl2 cs' with
        | stuck => simp only [qt] at s'; exact s'.elim
        | ex x cs3 => simp only [qt] at s'; exact s'.elim
        | ok b cs3 =>
          simp only [qt] at s'
          refine ⟨sl2, _, cs', hs3, c2, ?_⟩
          rw [qt]
          rintro ⟨m3, z3⟩ H3 e3 c3
          obtain rfl : z3 = D :: m1.z := e3.z
          have E3 : Ext m1 H1 ⟨m3, m1.z⟩ H3 := e'.trans ((e2.trans e3).drop (c3.res D List.mem_cons_self).2 nz)
          have hD3 : H3 D = some (.lst ys) := by rw [e3.zk D List.mem_cons_self, e2.zk D List.mem_cons_self]; exact hD
          have ra3 := ra.ext (e2.trans e3)
          cases b with
          | false =>
            simp only [R.bind_ok] at s'
            rw [if_neg (by simp)]
            cases qc : chkOf k vs xs cs3 with
            | false => rw [qc] at s'; exact s'.elim
            | true =>
              rw [qc] at s'
              exact ⟨m3, cs3, acc, ys, E3, c3, hD3, ra3, hs'.ext (e2.trans e3), rs'.ext (e2.trans e3), of_decide_eq_true qc, s'⟩
          | true =>
            rw [if_pos rfl]
            cases qe : ev cl elt' sl2 cs3 with
            | stuck => simp only [qe] at s'; exact s'.elim
            | ex x cs4 => simp only [qe] at s'; exact s'.elim
            | ok v cs4 =>
              simp only [qe, R.bind_ok] at s'
              refine ⟨sl2, _, cs3, hs3.ext e3, c3, ?_⟩
              rw [qe]
              rintro ⟨m4, z4⟩ H4 e4 c4 y ry
              obtain rfl : z4 = D :: m1.z := e4.z
              cases qc : chkOf k vs xs cs4 with
              | false => rw [qc] at s'; exact s'.elim
              | true =>
                rw [qc] at s'
                simp only at s'
                split at s'
                · rename_i hk
                  rw [Bool.and_eq_true] at hk
                  have hD4 : H4 D = some (.lst ys) := by rw [e4.zk D List.mem_cons_self]; exact hD3
                  have ra4 := ra3.ext e4
                  have ll : ys.length < sizeLine := by rw [← ra4.length]; exact of_decide_eq_true hk.2
                  have nD4 := (c4.res D List.mem_cons_self).2
                  have mo : Mon ⟨m4, D :: m1.z⟩ H4 ⟨m4, D :: m1.z⟩ (upd H4 D (.lst (ys ++ [y]))) := fun a o q n => ⟨by
                    rw [upd_ne fun y => n (.inr (by rw [y]; exact List.mem_cons_self))]; exact q, n⟩
                  have E4 : Ext m1 H1 ⟨m4, m1.z⟩ H4 := E3.trans (e4.drop nD4 nz)
                  have EE := (e2.trans e3).trans e4
                  refine ⟨ys, hD4, ll, m4, cs4, acc ++ [v], ys ++ [y], E4.at_new nD nz, ?_, upd_same, (ra4.mon mo).append (.cons ((ry.tree hk.1).mon mo) .nil), (hs'.ext EE).mon mo idAt, (rs'.ext EE).mon mo idAt, of_decide_eq_true qc, s'⟩
                  refine c4.mon mo (fun a q => upd_ne fun y => nD4 (by rw [← y]; exact q)) fun a q => ⟨?_, (c4.res a q).2⟩
                  by_cases ea : a = D
                  · rw [ea, upd_same]; rfl
                  · rw [upd_ne ea]; exact (c4.res a q).1
                · exact s'.elim
    · rintro H' ⟨mc, cs', acc, ys, e', c', hD, ra, hs', rs', qi', s'⟩
      rw [List.drop_eq_nil_of_le (Nat.le_refl _)] at s'
      simp only [lcLoop, R.bind_ok] at s'
      have mo : Mon ⟨mc, D :: m1.z⟩ H' ⟨mc, m1.z⟩ H' := fun a o q n => ⟨q, fun y => n (y.imp id fun y => List.mem_cons_of_mem _ y)⟩
      refine s' ⟨mc, m1.z⟩ H' e' (c'.mon mo (fun _ _ => rfl) fun a q => c'.res a (List.mem_cons_of_mem _ q)) (.ref D) (.val (.lst hD (fun y => ?_) (ra.mon mo)))
      rcases y with y | y
      · exact (c'.res D List.mem_cons_self).2 y
      · exact nz y
end
end Ps

set_option maxHeartbeats 1000000
/-! PsStmt2: statements. -/
namespace Ps
open PySem L2

/-- what is wanted behind a statement -/
def QO (w : Wd) (D : Ends) : Out → Cells → MP → Hp → Prop := fun o _ m' H' => match o with
  | .nx sl => ∀ σ', SloR w m' H' σ' sl → D.nx σ' H'
  | .rt v => ∀ u, AR w m' H' v u → D.rt u H'
  | .bk sl => ∀ σ', SloR w m' H' σ' sl → D.bk σ' H'
  | .ct sl => ∀ σ', SloR w m' H' σ' sl → D.ct σ' H'
def TStm (w : Wd) (W : WX) (f : Slots → Cells → R Out) : TS := fun D σ H => ∃ sl m cs, SloR w m H σ sl ∧ CsR w m H cs ∧ Sat w (fun c d H' => ∀ σ', W c d σ' H') (f sl cs) m H (QO w D)
abbrev SS (X : Cx) (W : WX) (cl : Cl) (s : Stmt) (s' : S) : Prop := PS X s (TStm (Cx.wd X) W (ex cl s'))
abbrev SSs (X : Cx) (W : WX) (cl : Cl) (s : List Stmt) (s' : List S) : Prop := PSs X s (TStm (Cx.wd X) W (exs cl s'))
section
variable {X : Cx} {W : WX} {cl : Cl} {e : Expr} {e' : E} {pos : Pos}
/-- an expression within a statement -/
theorem inS {w : Wd} {e : E} {σ : L2.St} {H : Hp} {sl : Slots} {m : MP} {cs : Cells} {f : Val → Cells → R Out} {P : Out → Cells → MP → Hp → Prop} {Q1 : VK} (hs : SloR w m H σ sl) (hc : CsR w m H cs)
    (s : Sat w (fun c d H' => ∀ σ', W c d σ' H') ((ev cl e sl cs).bind f) m H P)
    (k : ∀ x cs1 m1 H1 u, Ext m H m1 H1 → SloR w m1 H1 σ sl → CsR w m1 H1 cs1 → AR w m1 H1 x u → Sat w (fun c d H' => ∀ σ', W c d σ' H') (f x cs1) m1 H1 P → Q1 u H1) : TSem w W cl e σ H Q1 :=
  ⟨sl, m, cs, hs, hc, (Sat.bind s).mono (fun x cs1 m1 H1 e1 c1 s1 u r => k x cs1 m1 H1 u e1 (hs.ext e1) c1 r s1) fun _ _ _ z => z _⟩
theorem inT {w : Wd} {e : E} {σ : L2.St} {H : Hp} {sl : Slots} {m : MP} {cs : Cells} {f : Bool → Cells → R Out} {P : Out → Cells → MP → Hp → Prop} {Q1 : Bool → Hp → Prop} (hs : SloR w m H σ sl) (hc : CsR w m H cs)
    (s : Sat w (fun c d H' => ∀ σ', W c d σ' H') ((tst cl e sl cs).bind f) m H P)
    (k : ∀ b cs1 m1 H1, Ext m H m1 H1 → SloR w m1 H1 σ sl → CsR w m1 H1 cs1 → Sat w (fun c d H' => ∀ σ', W c d σ' H') (f b cs1) m1 H1 P → Q1 b H1) : TTst w W cl e σ H Q1 :=
  ⟨sl, m, cs, hs, hc, (Sat.bind s).mono (fun x cs1 m1 H1 e1 c1 s1 => k x cs1 m1 H1 e1 (hs.ext e1) c1 s1) fun _ _ _ z => z _⟩
theorem s_ret (he : SE X W cl e e') : SS X W cl (.Return (some e) pos) (.ret e') := by
  refine (ps_ret he).weak fun D σ H ⟨sl, m, cs, hs, hc, s⟩ => ?_
  simp only [ex] at s
  exact inS hs hc s fun x cs1 m1 H1 u e1 hs1 c1 r1 s1 => s1 m1 H1 (Ext.refl _ _) c1 u r1
theorem s_retN : SS X W cl (.Return none pos) (.ret (.const .non)) := by
  refine ps_retN.weak fun D σ H ⟨sl, m, cs, hs, hc, s⟩ => ?_
  simp only [ex, ev, R.bind_ok] at s
  exact s m H (Ext.refl _ _) hc .non (.val .non)
theorem s_expr (he : SE X W cl e e') (hs : swapsWith e none pos.line X.env = pure false) : SS X W cl (.Expr e pos) (.expr e') := by
  refine (ps_expr he hs).weak fun D σ H ⟨sl, m, cs, hs, hc, s⟩ => ?_
  simp only [ex] at s
  exact inS hs hc s fun x cs1 m1 H1 u e1 hs1 c1 r1 s1 => s1 m1 H1 (Ext.refl _ _) c1 σ hs1
theorem s_pass : SS X W cl (.Pass pos) .pass := by
  refine ps_pass.weak fun D σ H ⟨sl, m, cs, hs, hc, s⟩ => ?_
  simp only [ex] at s
  exact s m H (Ext.refl _ _) hc σ hs
/-- a value goes to a target -/
theorem asg_run {t : Tg} {g : TG} {D : Ends} {σ : L2.St} {H : Hp} (hg : ∀ m H σ sl v u sl' (Q : L2.St → Hp → Prop), SloR (Cx.wd X) m H σ sl → AR (Cx.wd X) m H v u → asgT t v sl = some sl' → (∀ σ', SloR (Cx.wd X) m H σ' sl' → Only (slotsT t) σ σ' → Q σ' H) → g u σ H Q)
    (h : TStm (Cx.wd X) W (ex cl (.asg t e')) D σ H) : tAsg (TSem (Cx.wd X) W cl e') g D σ H := by
  obtain ⟨sl, m, cs, hs, hc, s⟩ := h
  simp only [ex] at s
  refine inS hs hc s fun x cs1 m1 H1 u e1 hs1 c1 r1 s1 => ?_
  cases q : asgT t x sl with
  | none => rw [q] at s1; exact s1.elim
  | some sl2 =>
    rw [q] at s1
    simp only [R.of_some, R.bind_ok] at s1
    exact hg m1 H1 σ sl x u sl2 _ hs1 r1 q fun σ' hs' _ => s1 m1 H1 (Ext.refl _ _) c1 σ' hs'
theorem s_set {i : Nat} {x : Str} {pos' : Pos} (hN : X.N.Nodup) (hi : X.N[i]? = some x) (hx : Loc X.env.scope x) (hf : X.fn x = true ∨ X.env.scope.names.lookup x = some .local) (he : SE X W cl e e') (hs : swapsWith e (some (.Name x pos')) pos.line X.env = pure false) :
    SS X W cl (.Assign [.Name x pos'] e pos) (.asg (.nm i) e') := by
  refine (ps_set hN hi hx he hs hf).weak fun D σ H h => asg_run (t := .nm i) (fun m H σ sl v u sl' Q hs r e k => ?_) h
  cases e
  exact k _ (hs.set r) ⟨by simp, fun j n => by rw [List.getElem?_set_ne (Ne.symm (by simpa [slotsT] using n))]⟩
theorem s_asg {tg : Expr} {t : Tg} (hg : GOk X tg t) (he : SE X W cl e e') (hs : swapsWithSole [tg] e pos.line X.env = pure false) (hw : swappedStores [tg] e X.env = pure none) (h1 : (assignEach [tg] X.env).map (·.2) = [assign tg X.env]) : SS X W cl (.Assign [tg] e pos) (.asg t e') := by
  obtain ⟨g, p, k⟩ := hg
  exact (ps_asg he p hs hw h1).weak fun D σ H h => asg_run k h
/-- name = [..] -/
theorem s_setLc {i : Nat} {x : Str} {py spos : Pos} {elt tg iter : Expr} {ifs : List Expr} {scope : Scope} {own : List (Str × Nat)} {t : Tg} {elt' : E} {k : ItK} {its ifs' : List E} (hc : X.calm = true) (hN : X.N.Nodup) (hy : X.N[i]? = some x) (hyl : X.env.scope.names.lookup x = some .local)
    (hsw : swapsWith (.ListComp elt [⟨tg, iter, ifs, 0⟩] scope pos) (some (.Name x py)) spos.line X.env = pure true) (hi : SI X W cl tg iter k its) (ok : BlkOk X.N X.env.scope scope own)
    (hg : ∃ g, (∀ (s : Shared) (H : Hp) (C : Addr) (cl : List (Str × Addr)) (fp : List Addr), PG (X.blk s H scope (compEnvC scope cl C X.env) fp) tg g) ∧ ∀ m H σ sl v u sl' (Q : L2.St → Hp → Prop), SloR (Cx.wd X) m H σ sl → AR (Cx.wd X) m H v u → asgT t v sl = some sl' → (∀ σ', SloR (Cx.wd X) m H σ' sl' → Only (slotsT t) σ σ' → Q σ' H) → g u σ H Q)
    (ho : ∀ i ∈ slotsT t, i ∈ own.map (·.2))
    (ht : ∀ (s : Shared) (H : Hp) (C : Addr) (cc : List (Str × Addr)) (fp : List Addr), STs (X.blk s H scope (compEnvC scope cc C X.env) fp) W0 cl ifs ifs')
    (he : ∀ (s : Shared) (H : Hp) (C : Addr) (cc : List (Str × Addr)) (fp : List Addr), SE (X.blk s H scope (compEnvC scope cc C X.env) fp) W0 cl elt elt') (hs : ∀ y, foldedSetIterable iter X.env y = pure y) :
    SS X W cl (.Assign [.Name x py] (.ListComp elt [⟨tg, iter, ifs, 0⟩] scope pos) spos) (.asg (.nm i) (.lcomp elt' t k its ifs' (own.map (·.2)))) := by
  obtain ⟨g, pg, kg⟩ := hg
  refine (ps_setLc (tt := fun σ H Q => ∃ sl m cs, SloR (Cx.wd X) m H σ sl ∧ CsR (Cx.wd X) m H cs ∧ Sat (Cx.wd X) (fun c d H' => W0 c d σ H') (tests cl ifs' sl cs) m H fun b _ _ H' => Q b H') (te := TSem (Cx.wd X) W0 cl elt') hc hN hy hyl hsw hi ok pg (fun s H C cc fp => ht s H C cc fp) (fun s H C cc fp => he s H C cc fp) hs).weak fun D σ H h => ?_
  have h2 := asg_run (X := X) (t := .nm i) (g := gName i) (fun m H σ sl v u sl' Q hs r e k => by
    cases e
    exact k _ (hs.set r) ⟨by simp, fun j n => by rw [List.getElem?_set_ne (Ne.symm (by simpa [slotsT] using n))]⟩) h
  exact lc_run rfl kg ho rfl h2
theorem s_lc {elt tg iter : Expr} {ifs : List Expr} {scope : Scope} {own : List (Str × Nat)} {t : Tg} {elt' : E} {k : ItK} {its ifs' : List E} (hc : X.calm = true) (hN : X.N.Nodup) (hi : SI X W cl tg iter k its) (ok : BlkOk X.N X.env.scope scope own)
    (hg : ∃ g, (∀ (s : Shared) (H : Hp) (C : Addr) (cl : List (Str × Addr)) (fp : List Addr), PG (X.blk s H scope (compEnvC scope cl C X.env) fp) tg g) ∧ ∀ m H σ sl v u sl' (Q : L2.St → Hp → Prop), SloR (Cx.wd X) m H σ sl → AR (Cx.wd X) m H v u → asgT t v sl = some sl' → (∀ σ', SloR (Cx.wd X) m H σ' sl' → Only (slotsT t) σ σ' → Q σ' H) → g u σ H Q)
    (ho : ∀ i ∈ slotsT t, i ∈ own.map (·.2))
    (ht : ∀ (s : Shared) (H : Hp) (C : Addr) (cc : List (Str × Addr)) (fp : List Addr), STs (X.blk s H scope (compEnvC scope cc C X.env) fp) W0 cl ifs ifs')
    (he : ∀ (s : Shared) (H : Hp) (C : Addr) (cc : List (Str × Addr)) (fp : List Addr), SE (X.blk s H scope (compEnvC scope cc C X.env) fp) W0 cl elt elt') (hs : ∀ y, foldedSetIterable iter X.env y = pure y) :
    SE X W cl (.ListComp elt [⟨tg, iter, ifs, 0⟩] scope pos) (.lcomp elt' t k its ifs' (own.map (·.2))) := by
  obtain ⟨g, pg, kg⟩ := hg
  exact (pe_lc (tt := fun σ H Q => ∃ sl m cs, SloR (Cx.wd X) m H σ sl ∧ CsR (Cx.wd X) m H cs ∧ Sat (Cx.wd X) (fun c d H' => W0 c d σ H') (tests cl ifs' sl cs) m H fun b _ _ H' => Q b H') (te := TSem (Cx.wd X) W0 cl elt') hc hN hi ok pg (fun s H C cc fp => ht s H C cc fp) (fun s H C cc fp => he s H C cc fp) hs).weak fun σ H Q h => lc_run rfl kg ho rfl h
theorem s_if {c : Expr} {c' : E} {a b : List Stmt} {a' b' : List S} (hc' : ST X W cl c c') (ha : SSs X W cl a a') (hb : SSs X W cl b b') : SS X W cl (.If c a b pos) (.ite c' a' b') := by
  refine (ps_if hc' ha hb).weak fun D σ H ⟨sl, m, cs, hs, hc, s⟩ => ?_
  simp only [ex] at s
  refine inT hs hc s fun k cs1 m1 H1 e1 hs1 c1 s1 => ?_
  cases k with
  | true => exact ⟨sl, m1, cs1, hs1, c1, s1⟩
  | false => exact ⟨sl, m1, cs1, hs1, c1, s1⟩
theorem ss_nil : SSs X W cl [] [] := by
  refine pss_nil.weak fun D σ H ⟨sl, m, cs, hs, hc, s⟩ => ?_
  simp only [exs] at s
  exact s m H (Ext.refl _ _) hc σ hs
theorem ss_cons {st : Stmt} {sts : List Stmt} {st' : S} {sts' : List S} (h1 : SS X W cl st st') (h2 : SSs X W cl sts sts') : SSs X W cl (st :: sts) (st' :: sts') := by
  refine (pss_cons h1 h2).weak fun D σ H ⟨sl, m, cs, hs, hc, s⟩ => ⟨sl, m, cs, hs, hc, ?_⟩
  simp only [exs] at s
  refine (Sat.bind s).mono (fun o cs1 m1 H1 e1 c1 s1 => ?_) fun _ _ _ z => z
  cases o with
  | nx sl2 => exact fun σ' hs' => ⟨sl2, m1, cs1, hs', c1, s1⟩
  | rt v => exact s1 m1 H1 (Ext.refl _ _) c1
  | bk sl2 => exact s1 m1 H1 (Ext.refl _ _) c1
  | ct sl2 => exact s1 m1 H1 (Ext.refl _ _) c1
theorem s_for {tg iter : Expr} {body : List Stmt} {body' : List S} {t : Tg} {k : ItK} {its : List E} (hp : PassesOwn (model X.prog X.w) X.A X.env X.xe) (hc : X.calm = true) (hi : SI X W cl tg iter k its) (hg : GOk X tg t) (hb : SSs X W cl body body')
    (hs : ∀ y, foldedSetIterable iter X.env y = pure y) : SS X W cl (.For tg iter body [] pos) (.for_ t k its body') := by
  obtain ⟨g, pg, kg⟩ := hg
  refine (ps_for hp hc hi pg hb hs).weak fun D σ H ⟨sl, m, cs, hs, hc, s⟩ => ?_
  simp only [ex] at s
  refine ⟨sl, m, cs, hs, hc, (Sat.bind s).mono (fun vs cs1 m1 H1 e1 c1 s1 us rs => ?_) fun _ _ _ z => z _⟩
  cases qi : itemsOf k vs cs1 with
  | none => rw [qi] at s1; exact s1.elim
  | some xs =>
    rw [qi] at s1
    simp only [R.of_some, R.bind_ok] at s1
    refine ⟨xs, rfl, fun J ⟨G, Y, walk, good, yld⟩ => ?_⟩
    refine for_it walk (fun i σ' H' => ∃ sl' m' cs', Ext m1 H1 m' H' ∧ SloR (Cx.wd X) m' H' σ' sl' ∧ CsR (Cx.wd X) m' H' cs' ∧ itemsOf k vs cs' = some xs ∧
      Sat (Cx.wd X) (fun c d H' => ∀ σ', W c d σ' H') (forLoop (chkOf k vs xs) (fun x σ cs => (R.of (asgT t x σ) cs).bind fun σ cs => exs cl body' σ cs) (xs.drop i) sl' cs') m' H' (QO (Cx.wd X) D)) ?_ ?_ ?_ ?_
    · exact ⟨sl, m1, cs1, Ext.refl _ _, hs.ext e1, c1, qi, s1⟩
    · rintro i σ' H' hi ⟨sl', m', cs', e', hs', c', qi', s'⟩
      exact good m' H' cs' c' (rs.ext e') qi'
    · rintro i u σ' H' H'' hi ⟨sl', m', cs', e', hs', c', qi', s'⟩ y
      have hx : xs[i]? = some xs[i] := List.getElem?_eq_getElem hi
      obtain ⟨e2, c2, r2⟩ := yld i m' H' cs' u H'' xs[i] c' (rs.ext e') qi' hx y
      rw [List.drop_eq_getElem_cons hi] at s'
      simp only [forLoop] at s'
      cases qa : asgT t xs[i] sl' with
      | none => simp only [qa] at s'; exact s'.elim
      | some sl2 =>
        simp only [qa, R.of_some, R.bind_ok] at s'
        refine kg m' H'' σ' sl' _ u sl2 _ (hs'.ext e2) r2 qa fun σ2 hs3 _ => ⟨sl2, m', cs', hs3, c2, ?_⟩
        refine (Sat.bind (Sat.ext s' e2)).mono (fun o cs3 m3 H3 e3 c3 s3 => ?_) fun _ _ _ z => z
        cases o with
        | nx sl4 =>
          intro σ4 hs4
          simp only at s3
          split at s3
          · rename_i qc
            exact ⟨sl4, m3, cs3, (e'.trans e2).trans e3, hs4, c3, of_decide_eq_true qc, s3⟩
          · exact s3.elim
        | ct sl4 =>
          intro σ4 hs4
          simp only at s3
          split at s3
          · rename_i qc
            exact ⟨sl4, m3, cs3, (e'.trans e2).trans e3, hs4, c3, of_decide_eq_true qc, s3⟩
          · exact s3.elim
        | bk sl4 => exact fun σ4 hs4 => s3 m3 H3 (Ext.refl _ _) c3 σ4 hs4
        | rt v => exact fun u ru => s3 m3 H3 (Ext.refl _ _) c3 u ru
    · rintro σ' H' ⟨sl', m', cs', e', hs', c', qi', s'⟩
      rw [List.drop_eq_nil_of_le (Nat.le_refl _)] at s'
      simp only [forLoop] at s'
      exact s' m' H' (Ext.refl _ _) c' σ' hs'
theorem s_while {c : Expr} {c' : E} {body : List Stmt} {body' : List S} (hp : PassesOwn (model X.prog X.w) X.A X.env X.xe) (hc' : ST X W cl c c') (hb : SSs X W cl body body') : SS X W cl (.While c body [] pos) (.while_ c' body') := by
  refine (ps_while hp hc' hb).weak fun D σ H ⟨sl, m, cs, hs, hc, s⟩ => ?_
  simp only [ex] at s
  refine ⟨fun n σ' H' => ∃ sl' m' cs', SloR (Cx.wd X) m' H' σ' sl' ∧ CsR (Cx.wd X) m' H' cs' ∧ Sat (Cx.wd X) (fun c d H' => ∀ σ', W c d σ' H') (whLoop (fun σ cs => tst cl c' σ cs) (fun σ cs => exs cl body' σ cs) n sl' cs') m' H' (QO (Cx.wd X) D), ⟨FUEL, sl, m, cs, hs, hc, s⟩, ?_⟩
  rintro n σ' H' ⟨sl', m', cs', hs', hc', s'⟩
  cases n with
  | zero => exact s'.elim
  | succ n =>
    simp only [whLoop] at s'
    refine inT hs' hc' s' fun k cs1 m1 H1 e1 hs1 c1 s1 => ?_
    cases k with
    | false => exact s1 m1 H1 (Ext.refl _ _) c1 σ' hs1
    | true =>
      refine ⟨fun σ4 H4 => ∃ sl' m' cs', SloR (Cx.wd X) m' H4 σ4 sl' ∧ CsR (Cx.wd X) m' H4 cs' ∧ Sat (Cx.wd X) (fun c d H' => ∀ σ', W c d σ' H') (whLoop (fun σ cs => tst cl c' σ cs) (fun σ cs => exs cl body' σ cs) n sl' cs') m' H4 (QO (Cx.wd X) D), fun σ4 H4 z => ⟨n, Nat.lt_succ_self n, z⟩, sl', m1, cs1, hs1, c1, ?_⟩
      simp only at s1
      refine (Sat.bind s1).mono (fun o cs3 m3 H3 e3 c3 s3 => ?_) fun _ _ _ z => z
      cases o with
      | nx sl4 => exact fun σ4 hs4 => ⟨sl4, m3, cs3, hs4, c3, s3⟩
      | ct sl4 => exact fun σ4 hs4 => ⟨sl4, m3, cs3, hs4, c3, s3⟩
      | bk sl4 => exact fun σ4 hs4 => s3 m3 H3 (Ext.refl _ _) c3 σ4 hs4
      | rt v => exact fun u ru => s3 m3 H3 (Ext.refl _ _) c3 u ru
end
end Ps

set_option maxHeartbeats 1000000
/-! PsCall: calls, displays of dicts, stores, defs. -/
namespace Ps
open PySem L2
/-- the heap without what stands at p -/
def hide (H : Hp) (p : Addr) : Hp := fun a => if a = p then none else H a
theorem hide_ne {H : Hp} {p a : Addr} (h : a ≠ p) : hide H p a = H a := if_neg h
theorem hide_at {H : Hp} {p : Addr} : hide H p p = none := if_pos rfl
theorem upd_hide {H : Hp} {p : Addr} {o : HO} : upd (hide H p) p o = upd H p o := by
  funext a
  by_cases e : a = p
  · rw [e, upd_same, upd_same]
  · rw [upd_ne e, upd_ne e, hide_ne e]
section
variable {X : Cx} {W : WX} {cl : Cl} {pos : Pos}

/-! ### texts put together -/
theorem s_fmt {e : Expr} {e' : E} (he : SE X W cl e e') : SE X W cl (.FormattedValue e (-1) none pos) (.fmt e') := by
  refine (pe_fmt he).weak fun σ H Q ⟨sl, m, cs, hs, hc, s⟩ => ?_
  simp only [ev] at s
  refine first hs hc s fun x cs1 m1 H1 u e1 hs1 c1 r1 s1 => ?_
  split at s1
  · split at s1
    · rw [r1.str]; exact .inl ⟨_, rfl, by assumption, sat_at c1 s1 (.val (.str _))⟩
    · exact s1.elim
  · split at s1
    · rw [r1.int]; exact .inr ⟨_, rfl, by assumption, sat_at c1 s1 (.val (.str _))⟩
    · exact s1.elim
  · exact s1.elim
/-- the parts -/
inductive SJ (X : Cx) (W : WX) (cl : Cl) : List Expr → List E → Prop
  | nil : SJ X W cl [] []
  | cons {e : Expr} {e' : E} {es : List Expr} {es' : List E} : SE X W cl e e' → SJ X W cl es es' → SJ X W cl (e :: es) (e' :: es')
theorem SJ.pj {es : List Expr} {es' : List E} (h : SJ X W cl es es') : PJ X es (es'.map (TSem (Cx.wd X) W cl)) := by
  induction h with
  | nil => exact .nil
  | cons h _ ih => exact .cons h ih
theorem js_run {w : Wd} {σ : L2.St} {sl : Slots} {P : Str → Cells → MP → Hp → Prop} : ∀ {es : List E} {acc : Str} {m : MP} {H : Hp} {cs : Cells} {Q1 : Str → Hp → Prop}, SloR w m H σ sl → CsR w m H cs → Sat w (fun c d H' => W c d σ H') (evf cl es acc sl cs) m H P →
    (∀ y cs1 m1 H1, CsR w m1 H1 cs1 → P y cs1 m1 H1 → Q1 y H1) → tJs (es.map (TSem w W cl)) acc σ H Q1
  | [], acc, m, H, cs, Q1, hs, hc, s, k => k acc cs m H hc (s m H (Ext.refl _ _) hc)
  | e :: es, acc, m, H, cs, Q1, hs, hc, s, k => by
    simp only [evf] at s
    refine ⟨sl, m, cs, hs, hc, (Sat.bind s).mono (fun x cs1 m1 H1 e1 c1 s1 u r => ?_) fun _ _ _ z => z⟩
    split at s1
    · rename_i y
      split at s1
      · rw [r.str]
        exact ⟨y, rfl, by assumption, js_run (hs.ext e1) c1 s1 k⟩
      · exact s1.elim
    · exact s1.elim
theorem s_fstr {v1 v2 : Expr} {rest : List Expr} {es' : List E} (h : SJ X W cl (v1 :: v2 :: rest) es') : SE X W cl (.JoinedStr (v1 :: v2 :: rest) pos) (.fstr es') := by
  refine (pe_joined h.pj).weak fun σ H Q ⟨sl, m, cs, hs, hc, s⟩ => ?_
  simp only [ev] at s
  exact js_run hs hc (Sat.bind s) fun y cs1 m1 H1 c1 s1 => sat_at c1 s1 (.val (.str _))
theorem s_emp : SE X W cl (.Dict [] [] pos) .emp := by
  refine pe_dnewK.weak fun σ H Q ⟨sl, m, cs, hs, hc, s⟩ p n => ?_
  simp only [ev] at s
  exact s m _ (Ext.alloc n (hc.free n)) (hc.alloc n) (.ref p) (.val (.emp upd_same (hc.free n)))

/-! ### a written dict -/
theorem pairs_run {w : Wd} {σ : L2.St} {sl : Slots} {P : List Val → Cells → MP → Hp → Prop} : ∀ {ks : List Str} {es : List E} {m : MP} {H : Hp} {cs : Cells} {Q1 : List (V × V) → Hp → Prop}, ks.length = es.length → SloR w m H σ sl → CsR w m H cs → Sat w (fun c d H' => W c d σ H') (evs cl es sl cs) m H P →
    (∀ vs us cs1 m1 H1, Ext m H m1 H1 → CsR w m1 H1 cs1 → ARs w m1 H1 vs us → P vs cs1 m1 H1 → Q1 ((ks.map V.str).zip us) H1) → tPairs ((ks.map fun k => tC (.str k)).zip (es.map (TSem w W cl))) σ H Q1
  | [], [], m, H, cs, Q1, _, hs, hc, s, k => k [] [] cs m H (Ext.refl _ _) hc .nil (s m H (Ext.refl _ _) hc)
  | [], _ :: _, _, _, _, _, l, _, _, _, _ => by cases l
  | _ :: _, [], _, _, _, _, l, _, _, _, _ => by cases l
  | q :: ks, e :: es, m, H, cs, Q1, l, hs, hc, s, k => by
    simp only [evs] at s
    show TSem w W cl e σ H fun y H2 => tPairs ((ks.map fun k => tC (.str k)).zip (es.map (TSem w W cl))) σ H2 fun ps H3 => Q1 ((.str q, y) :: ps) H3
    refine ⟨sl, m, cs, hs, hc, (Sat.bind s).mono (fun x cs1 m1 H1 e1 c1 s1 u r => ?_) fun _ _ _ z => z⟩
    refine pairs_run (Nat.succ.inj l) (hs.ext e1) c1 (Sat.bind s1) fun vs us cs2 m2 H2 e2 c2 rs s2 => ?_
    exact k (x :: vs) (u :: us) cs2 m2 H2 (e1.trans e2) c2 (.cons (r.ext e2) rs) (s2 m2 H2 (Ext.refl _ _) c2)
theorem mergeK_nodup : ∀ (kvs acc : List (Key × V)), ((acc ++ kvs).map (·.1)).Nodup → mergeK acc kvs = acc ++ kvs
  | [], acc, _ => by simp [mergeK]
  | kv :: kvs, acc, h => by
    have e : putK acc kv.1 kv.2 = acc ++ [kv] := by
      refine putK_new _ ?_
      cases q : valV acc kv.1 with
      | none => rfl
      | some x =>
        exfalso
        unfold valV at q
        rw [Option.map_eq_some_iff] at q
        obtain ⟨p, hp, _⟩ := q
        have h1 := List.mem_of_find?_eq_some hp
        have h2 : p.1 = kv.1 := by simpa using List.find?_some hp
        rw [List.map_append, List.nodup_append] at h
        exact h.2.2 p.1 (List.mem_map_of_mem h1) kv.1 (by simp) h2
    show mergeK (putK acc kv.1 kv.2) kvs = _
    rw [e, mergeK_nodup kvs (acc ++ [kv]) (by simpa using h)]
    simp
theorem zip_kV : ∀ (ks : List Str) (us : List V), ((ks.map Sum.inr).zip us : List (Key × V)).map (fun kv => (kV kv.1, kv.2)) = (ks.map V.str).zip us
  | [], _ => rfl
  | _ :: _, [] => rfl
  | k :: ks, u :: us => congrArg _ (zip_kV ks us)
theorem zip_vr {w : Wd} {m : MP} {H : Hp} : ∀ {ks : List Str} {vs : List Val} {us : List V}, VRs w m H vs us → Paired (fun (p : Key × Val) (q : Key × V) => p.1 = q.1 ∧ VR w m H p.2 q.2) ((ks.map Sum.inr).zip vs) ((ks.map Sum.inr).zip us)
  | [], _, _, _ => .nil
  | _ :: _, _, _, .nil => .nil
  | k :: ks, _, _, .cons r t => .cons ⟨rfl, r⟩ (zip_vr t)
theorem s_dict {ks : List Str} {keys : List (Option Expr)} {values : List Expr} {es' : List E} (h : PPs X pos keys values ((ks.map fun k => tC (.str k)).zip (es'.map (TSem (Cx.wd X) W cl)))) (hl : ks.length = es'.length) (hall : keys.all (·.isSome) = true) (hl2 : keys.length = values.length) (h0 : keys ≠ []) (hb : keys.length ≤ 15) :
    SE X W cl (.Dict keys values pos) (.dict ks es') := by
  refine (pe_disp h hall hl2 h0 hb).weak fun σ H Q ⟨sl, m, cs, hs, hc, s⟩ p n => ?_
  simp only [ev] at s
  have np := hc.free n
  have nc : some p ∉ m.c := fun y => np (.inl y)
  have nz : p ∉ m.z := fun y => np (.inr y)
  have mo : Mon m H ⟨m.c, p :: m.z⟩ (upd H p (.dK [])) := fun a o q na => by
    have ea : a ≠ p := ne_of_none q n
    refine ⟨by rw [upd_ne ea]; exact q, fun y => ?_⟩
    rcases y with y | y
    · exact na (.inl y)
    · rcases List.mem_cons.mp y with y | y
      · exact ea y
      · exact na (.inr y)
  have hc2 : CsR (Cx.wd X) ⟨m.c, p :: m.z⟩ (upd H p (.dK [])) cs := hc.mon mo (fun a q => upd_ne fun y => nc (by rw [← y]; exact q)) fun a q => by
    rcases List.mem_cons.mp q with q | q
    · rw [q, upd_same]; exact ⟨rfl, nc⟩
    · rw [upd_ne fun y => nz (by rw [← y]; exact q)]
      exact hc.res a q
  have s0 : Sat (Cx.wd X) (fun c d H' => W c d σ H') (evs cl es' sl cs) ⟨m.c, p :: m.z⟩ (upd H p (.dK [])) (fun vs cs' m' H' => evs cl es' sl cs = .ok vs cs') := by
    cases q : evs cl es' sl cs with
    | stuck => rw [q] at s; exact s.elim
    | ok vs cs' => exact fun _ _ _ _ => rfl
    | ex x cs' =>
      rw [q] at s
      rintro c d ⟨mc, mz⟩ H' e' c' ⟨nn, kk, vv, C, h1, h2, h3, h4⟩
      obtain rfl : mz = p :: m.z := e'.z
      have np' := (c'.res p List.mem_cons_self).2
      have mo2 : Mon ⟨mc, p :: m.z⟩ H' ⟨mc, m.z⟩ H' := fun a o q na => ⟨q, fun y => na (y.imp id fun y => List.mem_cons_of_mem _ y)⟩
      have E' : Ext m H ⟨mc, m.z⟩ H' := (Ext.alloc n np).trans (e'.drop np' nz)
      refine s c d ⟨mc, m.z⟩ H' E' (c'.mon mo2 (fun _ _ => rfl) fun a q => c'.res a (List.mem_cons_of_mem _ q)) ⟨nn, kk, vv, C, h1, h2, h3, ?_⟩
      rcases h4 with h4 | ⟨dd, us, g1, g2, g3, g4, g5⟩
      · exact .inl h4
      · exact .inr ⟨dd, us, g1, g2, g3, (mo2 _ _ g3 g4).2, g5.mon mo2⟩
  refine pairs_run hl (hs.mon mo idAt) hc2 s0 ?_
  rintro vs us cs1 ⟨mc, mz⟩ H1 e1 c1 rs q1
  obtain rfl : mz = p :: m.z := e1.z
  have hp : H1 p = some (.dK []) := by rw [e1.zk p List.mem_cons_self, upd_same]
  rw [q1] at s
  simp only [R.bind_ok] at s
  split at s
  · rename_i hk
    simp only [Bool.and_eq_true, decide_eq_true_eq] at hk
    obtain ⟨⟨⟨k1, k2⟩, k3⟩, k4⟩ := hk
    have np' := (c1.res p List.mem_cons_self).2
    have E1 : Ext m H ⟨mc, m.z⟩ H1 := (Ext.alloc n np).trans (e1.drop np' nz)
    have lu : us.length = ks.length := by rw [← rs.length]; exact k2
    have ez : ((ks.map Sum.inr).zip us : List (Key × V)).map (fun kv => (kV kv.1, kv.2)) = (ks.map V.str).zip us := by
      exact zip_kV ks us
    refine ⟨hp, (ks.map Sum.inr).zip us, ez.symm, by rw [List.length_zip, List.length_map]; omega, ?_⟩
    have nd : ((([] : List (Key × V)) ++ (ks.map Sum.inr).zip us).map (Prod.fst : Key × V → Key)).Nodup := by
      rw [List.nil_append, show ((ks.map Sum.inr).zip us : List (Key × V)).map (Prod.fst : Key × V → Key) = ks.map Sum.inr from List.map_fst_zip (by simp [lu])]
      exact (List.pairwise_map).mpr (k4.imp fun h z => h (Sum.inr.inj z))
    rw [mergeK_nodup _ [] nd, List.nil_append]
    refine s ⟨mc ++ [some p], m.z⟩ _ ?_ ?_ (.ref p) (.ref (by show (mc ++ [some p])[cs1.length]? = _; rw [c1.len]; simp))
    · refine ⟨fun a o q na => by rw [upd_ne (ne_of_none q n)]; exact E1.keep a o q na, by have := E1.len; simp at this ⊢; omega, fun i o q => ?_, fun a q => ?_, rfl, fun a q => by rw [upd_ne fun y => nz (by rw [← y]; exact q)]; exact E1.zk a q⟩
      · have hi : i < mc.length := Nat.lt_of_lt_of_le (List.getElem?_eq_some_iff.mp q).1 E1.len
        show (mc ++ [some p])[i]? = _ ∨ (mc ++ [some p])[i]? = _
        rw [List.getElem?_append_left hi]
        exact E1.at_ i o q
      · rcases q with q | q
        · rcases List.mem_append.mp q with q | q
          · exact E1.new a (.inl q)
          · have e : a = p := by simpa using q
            exact .inr (by rw [e]; exact n)
        · exact E1.new a (.inr q)
    · have mo3 : Mon ⟨mc, p :: m.z⟩ H1 ⟨mc, m.z⟩ (hide H1 p) := fun a o q na => by
        have ea : a ≠ p := fun y => na (.inr (by rw [y]; exact List.mem_cons_self))
        exact ⟨by rw [hide_ne ea]; exact q, fun y => na (y.imp id fun y => List.mem_cons_of_mem _ y)⟩
      have c3 : CsR (Cx.wd X) ⟨mc, m.z⟩ (hide H1 p) cs1 := c1.mon mo3 (fun a q => hide_ne fun y => np' (by rw [← y]; exact q)) fun a q => by
        have ea : a ≠ p := fun y => nz (by rw [← y]; exact q)
        rw [hide_ne ea]
        exact c1.res a (List.mem_cons_of_mem _ q)
      have c4 := c3.own (p := p) (o := .dK ((ks.map Sum.inr).zip us)) (c := .dict ((ks.map Sum.inr).zip vs)) hide_at ⟨_, upd_same, zip_vr ((rs.trees k1).mon fun a o q na => by
        have ea : a ≠ p := fun y => na (.inr (by rw [y]; exact List.mem_cons_self))
        refine ⟨by rw [upd_ne ea, hide_ne ea]; exact q, fun y => ?_⟩
        rcases y with y | y
        · rcases List.mem_append.mp y with y | y
          · exact na (.inl y)
          · exact ea (by simpa using y)
        · exact na (.inr (List.mem_cons_of_mem _ y)))⟩
      rw [upd_hide] at c4
      exact c4
  · exact s.elim
end
end Ps

set_option maxHeartbeats 1000000
/-! PsDef: stores, calls, defs. -/
namespace Ps
open PySem L2 PyProof.Rows
section
variable {X : Cx} {W : WX} {cl : Cl} {pos : Pos}
/-- arguments within a statement -/
theorem insS {w : Wd} {es : List E} {σ : L2.St} {H : Hp} {sl : Slots} {m : MP} {cs : Cells} {f : List Val → Cells → R Out} {P : Out → Cells → MP → Hp → Prop} {Q1 : List V → Hp → Prop} (hs : SloR w m H σ sl) (hc : CsR w m H cs)
    (s : Sat w (fun c d H' => ∀ σ', W c d σ' H') ((evs cl es sl cs).bind f) m H P)
    (k : ∀ xs cs1 m1 H1 us, Ext m H m1 H1 → SloR w m1 H1 σ sl → CsR w m1 H1 cs1 → ARs w m1 H1 xs us → Sat w (fun c d H' => ∀ σ', W c d σ' H') (f xs cs1) m1 H1 P → Q1 us H1) : TArg w W cl es σ H Q1 :=
  ⟨sl, m, cs, hs, hc, (Sat.bind s).mono (fun x cs1 m1 H1 e1 c1 s1 u r => k x cs1 m1 H1 u e1 (hs.ext e1) c1 r s1) fun _ _ _ z => z _⟩
theorem s_par2 {i j : Nat} {x y : Str} {a b : Expr} {es' : List E} {px py pt : Pos} {kt k2 pt2} (hc : X.calm = true) (hN : X.N.Nodup) (hi : X.N[i]? = some x) (hj : X.N[j]? = some y) (hij : i ≠ j)
    (hx : X.env.scope.names.lookup x = some .local) (hy : X.env.scope.names.lookup y = some .local) (ha : SA X W cl [a, b] es')
    (hw : swappedStores [.Tuple [.Name x px, .Name y py] kt pt] (.Tuple [a, b] k2 pt2) X.env = pure (some [x, y]))
    (hs : swapsWithSole [.Tuple [.Name x px, .Name y py] kt pt] (.Tuple [a, b] k2 pt2) pos.line X.env = pure false) :
    SS X W cl (.Assign [.Tuple [.Name x px, .Name y py] kt pt] (.Tuple [a, b] k2 pt2) pos) (.par [i, j] es') := by
  refine (ps_par hc hN hi hj hij hx hy ha hw hs).weak fun D σ H ⟨sl, m, cs, hs, hc, s⟩ => ?_
  simp only [ex] at s
  refine insS hs hc s fun vs cs1 m1 H1 us e1 hs1 c1 r1 s1 => ?_
  split at s1
  · rename_i hl
    cases r1 with
    | nil => cases hl
    | cons r1 t =>
      cases t with
      | nil => cases hl
      | cons r2 t =>
        cases t with
        | cons => cases hl
        | nil => exact ⟨_, _, rfl, s1 m1 H1 (Ext.refl _ _) c1 _ ((hs1.set r1).set r2)⟩
  · exact s1.elim
theorem s_par3 {i j l : Nat} {x y z : Str} {a b c : Expr} {es' : List E} {px py pz pt : Pos} {kt k2 pt2} (hc : X.calm = true) (hN : X.N.Nodup) (hi : X.N[i]? = some x) (hj : X.N[j]? = some y) (hl : X.N[l]? = some z) (hij : i ≠ j) (hil : i ≠ l) (hjl : j ≠ l)
    (hx : X.env.scope.names.lookup x = some .local) (hy : X.env.scope.names.lookup y = some .local) (hz : X.env.scope.names.lookup z = some .local) (ha : SA X W cl [a, b, c] es')
    (hw : swappedStores [.Tuple [.Name x px, .Name y py, .Name z pz] kt pt] (.Tuple [a, b, c] k2 pt2) X.env = pure (some [x, y, z]))
    (hs : swapsWithSole [.Tuple [.Name x px, .Name y py, .Name z pz] kt pt] (.Tuple [a, b, c] k2 pt2) pos.line X.env = pure false) :
    SS X W cl (.Assign [.Tuple [.Name x px, .Name y py, .Name z pz] kt pt] (.Tuple [a, b, c] k2 pt2) pos) (.par [i, j, l] es') := by
  refine (ps_par3 hc hN hi hj hl hij hil hjl hx hy hz ha hw hs).weak fun D σ H ⟨sl, m, cs, hs, hc, s⟩ => ?_
  simp only [ex] at s
  refine insS hs hc s fun vs cs1 m1 H1 us e1 hs1 c1 r1 s1 => ?_
  split at s1
  · rename_i hl
    cases r1 with
    | nil => cases hl
    | cons r1 t =>
      cases t with
      | nil => cases hl
      | cons r2 t =>
        cases t with
        | nil => cases hl
        | cons r3 t =>
          cases t with
          | cons => cases hl
          | nil => exact ⟨_, _, _, rfl, s1 m1 H1 (Ext.refl _ _) c1 _ (((hs1.set r1).set r2).set r3)⟩
  · exact s1.elim

/-! ### d[k] = v -/
theorem pair_any {w : Wd} {m : MP} {H : Hp} {k : Key} : ∀ {kvs : List (Key × Val)} {lvs : List (Key × V)}, Paired (fun (p : Key × Val) (q : Key × V) => p.1 = q.1 ∧ VR w m H p.2 q.2) kvs lvs → (kvs.any fun kv => decide (kv.1 = k)) = lvs.any fun kv => decide (kv.1 = k)
  | _, _, .nil => rfl
  | _, _, .cons (a := p) (b := q) ⟨h1, _⟩ t => by
    rw [List.any_cons, List.any_cons, h1, pair_any t]
theorem pair_map {w : Wd} {m : MP} {H : Hp} {k : Key} {y : Val} {v : V} (r : VR w m H y v) : ∀ {kvs : List (Key × Val)} {lvs : List (Key × V)}, Paired (fun (p : Key × Val) (q : Key × V) => p.1 = q.1 ∧ VR w m H p.2 q.2) kvs lvs →
    Paired (fun (p : Key × Val) (q : Key × V) => p.1 = q.1 ∧ VR w m H p.2 q.2) (kvs.map fun kv => if kv.1 = k then (kv.1, y) else kv) (lvs.map fun kv => if kv.1 = k then (kv.1, v) else kv)
  | _, _, .nil => .nil
  | _, _, .cons (a := p) (b := q) ⟨h1, h2⟩ t => by
    refine .cons ?_ (pair_map r t)
    dsimp only
    by_cases e : p.1 = k
    · rw [if_pos e, if_pos (by rw [← h1]; exact e)]; exact ⟨h1, r⟩
    · rw [if_neg e, if_neg (by rw [← h1]; exact e)]; exact ⟨h1, h2⟩
theorem paired_snoc {α β : Type} {F : α → β → Prop} : ∀ {l₁ : List α} {l₂ : List β} {a : α} {b : β}, Paired F l₁ l₂ → F a b → Paired F (l₁ ++ [a]) (l₂ ++ [b])
  | _, _, _, _, .nil, h => .cons h .nil
  | _, _, _, _, .cons r t, h => .cons r (paired_snoc t h)
theorem pair_put {w : Wd} {m : MP} {H : Hp} {k : Key} {y : Val} {v : V} {kvs : List (Key × Val)} {lvs : List (Key × V)} (r : VR w m H y v) (h : Paired (fun (p : Key × Val) (q : Key × V) => p.1 = q.1 ∧ VR w m H p.2 q.2) kvs lvs) :
    Paired (fun (p : Key × Val) (q : Key × V) => p.1 = q.1 ∧ VR w m H p.2 q.2) (putD kvs k y) (putK lvs k v) := by
  unfold putD putK
  rw [pair_any h]
  split
  · exact pair_map r h
  · exact paired_snoc h ⟨rfl, r⟩
theorem paired_len {α β : Type} {F : α → β → Prop} : ∀ {l₁ : List α} {l₂ : List β}, Paired F l₁ l₂ → l₁.length = l₂.length
  | _, _, .nil => rfl
  | _, _, .cons _ t => congrArg Nat.succ (paired_len t)
theorem s_sub {o i v : Expr} {o' i' v' : E} {pos' : Pos} (hu : X.A.units + 65 < cLine) (ho : SE X W cl o o') (hi : SE X W cl i i') (hv : SE X W cl v v') (hs : swapsWith v (some (.Subscript o i pos')) pos.line X.env = pure false) :
    SS X W cl (.Assign [.Subscript o i pos'] v pos) (.sub o' i' v') := by
  refine (ps_dput (by omega) ho hi hv hs).weak fun D σ H ⟨sl, m, cs, hs, hc, s⟩ => ?_
  simp only [ex] at s
  refine inS hs hc s fun y cs1 m1 H1 uy e1 hs1 c1 r1 s1 => inS hs1 c1 s1 fun x cs2 m2 H2 ux e2 hs2 c2 r2 s2 => inS hs2 c2 s2 fun z cs3 m3 H3 uz e3 hs3 c3 r3 s3 => ?_
  split at s3
  · rename_i r k
    split at s3
    · rename_i kvs q
      split at s3
      · rename_i hk
        rw [Bool.and_eq_true] at hk
        obtain ⟨a, lvs, ea, qa, h1, h2⟩ := cell_dict c3 q (r2.ext e3)
        subst ea
        rw [r3.str]
        have ry := ((r1.ext e2).ext e3).tree hk.1
        have nz := c3.nz qa
        refine ⟨a, _, rfl, DPut.k (k := .inr k) h1 (by rw [← paired_len h2]; exact of_decide_eq_true hk.2), ?_⟩
        have ew : Ext m3 H3 m3 (upd H3 a (.dK (putK lvs (.inr k) uy))) := Ext.write qa nz
        exact s3 m3 _ ew (c3.write qa ⟨_, upd_same, VRs.paired ew.mon (pair_put ry h2)⟩) σ (hs3.ext ew)
      · exact s3.elim
    · exact s3.elim
  · exact s3.elim

/-! ### calls -/
/-- a def's promise, by its run -/
def spCl (w : Wd) (cl : Cl) (f : Str) (n : Nat) : Sp := fun us H Q E => us.length = n ∧ ∃ vs m cs, ARs w m H vs us ∧ CsR w m H cs ∧ Sat w E (cl f vs cs) m H (QE w Q)
/-- what a def promises where no repr is under way -/
structure FnG (P : Program) (w : World) (K : PySem.W.Frag) (mg : Str → Option Value) (base : Heap) (CX : CXT) (k : Nat) (f : Addr) (fd : FuncData) (ps : List Str) (sp : Sp) : Prop where
  run : ∀ (A : Around) (outer : List Env) (s : Shared) (H : Hp) (args : Args) (us : List Value) (vs : List V) (Q : VK) (E : XK), A.guards = some [] → Room k A → Env0 P w K mg base A outer s H → BindsTo s fd args (ps.zip us) → Vals vs us → sp vs H Q E →
    codeAny (model P w) A (.call (.ref f) args) (CR CX outer P w H s Q E) s
/-- a def by its body -/
theorem fnG_of {CX : CXT} {P : Program} {w : World} {K : PySem.W.Frag} {mg : Str → Option Value} {base : Heap} {k : Nat} {f : Addr} {fd : FuncData} {x qual : Str} {params : Arguments} {body : List Stmt} {scope : Scope} {dvs : List V} {kws : List (Str × V)}
    {N ps : List Str} {sp : Sp} (F : FunD K x qual params body scope dvs kws f fd) (S : FnScope N ps scope) (len : ∀ vs H Q E, sp vs H Q E → vs.length = ps.length)
    (hbody : ∀ (cdv : Value) (A : Around) (outer : List Env) (s : Shared) (H : Hp) (vs : List V) (Q : VK) (E : XK), A.guards = some [] → Room k (A.deeper (envOfC qual scope s.heap.objs.size f cdv)) → sp vs H Q E →
      ∃ t, PSs (cxOf CX P w K mg base N qual scope f cdv A outer s H E) body t ∧ t { nx := fun _ H' => Q .non H', rt := Q } (start N vs) H) :
    FnG P w K mg base CX (k + 1) f fd ps sp := by
  obtain ⟨oc, od, dV, kV, doc, pm, an, cdv, ct, osl, rfl, lk, hcd, _, _⟩ := F.ex
  refine ⟨fun A outer s H args us vs Q E hgd hr e0 hb r hsp => ?_⟩
  have hl := len _ _ _ _ hsp
  have KX : K.In s.heap := e0.mod.kin.keeps fun b o e => (e0.bs b o e).1
  refine codeAny_call_function hr.depth (KX _ _ lk) rfl S.co S.gen rfl (PySem.W.codeRec_of KX hcd) (hb _ _ _ _ ?_)
  refine wpAny_newFunctionEnv_cells S.kind (fun ⟨n, v⟩ hy => (S.par n (List.of_mem_zip hy).1).imp id fun q => ⟨q, PySem.W.cellsFrom_some _ _ _ (.inl q)⟩) fun env he s1 x => ?_
  subst he
  refine ⟨(e0.mod.nolimit.keeps fun b o e => (e0.bs b o e).1).keeps x.toInCall.keep, codeAny_func ?_⟩
  obtain ⟨t, ht, hq⟩ := hbody cdv A outer s H vs Q E hgd (hr.deeper _) hsp
  have I : Inv (cxOf CX P w K mg base N qual scope f cdv A outer s H E) [] (start N vs) H s1 := inv_start S hr.hd e0 hl r x
  refine wpAny_mono (ht.run [] s1 (start N vs) H _ I hq) (fun fl s' hs => ?_) fun e s' hs => hs
  cases fl with
  | ret u =>
    obtain ⟨v, σ', H', J, rv, q⟩ := hs
    exact ⟨v, H', J.os, J.bare, J.base, J.hok, rv, q⟩
  | next =>
    obtain ⟨σ', H', J, q⟩ := hs
    exact ⟨V.non, H', J.os, J.bare, J.base, J.hok, rfl, q⟩
  | brk => obtain ⟨_, _, _, q⟩ := hs; exact False.elim q
  | cont => obtain ⟨_, _, _, q⟩ := hs; exact False.elim q
/-- what is known of a def that is called with n values and the keywords ks -/
structure Callee (X : Cx) (cl : Cl) (f : Str) (n : Nat) (ks : List Str) (sh : List (Nat ⊕ Val)) : Prop where
  ex : ∃ (a : Addr) (fd : FuncData) (ps : List Str) (k : Nat) (g : List Value → List Value → List Value) (gV : List V → List V → List V), X.mg f = some (.ref a) ∧ PySem.W.keepIn X.K (.ref a) = true ∧ X.A.guards = some [] ∧ Room k X.A ∧ KBn X.K fd ps n ks g gV ∧
    FnG X.prog X.w X.K X.mg X.base (L2.CX X.prog X.w) k a fd ps (spCl (Cx.wd X) cl f ps.length) ∧
    ∀ m H vs us zs ws vs', ARs (Cx.wd X) m H vs us → ARs (Cx.wd X) m H zs ws → us.length = n → ws.length = ks.length → shape sh (vs ++ zs) = some vs' → ARs (Cx.wd X) m H vs' (gV us ws) ∧ (gV us ws).length = ps.length
theorem run_callee {pins : List (Addr × Obj)} {σ : L2.St} {H : Hp} {s : Shared} {Q : VK} {us ws : List Value} {vs zs : List V} {a : Addr} {fd : FuncData} {ps ks : List Str} {k n : Nat} {g : List Value → List Value → List Value} {gV : List V → List V → List V} {sp : Sp}
    (F : FnG X.prog X.w X.K X.mg X.base (L2.CX X.prog X.w) k a fd ps sp) (hgd : X.A.guards = some []) (hr : Room k X.A) (hb : KBn X.K fd ps n ks g gV) (tk : Takes X W)
    (I : Inv X pins σ H s) (r : Vals vs us) (rz : Vals zs ws) (l1 : vs.length = n) (l2 : zs.length = ks.length) (h : sp (gV vs zs) H Q (WE W σ)) : wpAny (model X.prog X.w) X.A (call (.ref a) us (ks.zip ws)) (EP X pins σ Q) X.xe s := by
  have r2 := hb.rel r rz
  refine wpAny_call (codeAny_mono (F.run X.A X.stack s H ⟨us, ks.zip ws⟩ (g us ws) (gV vs zs) Q (WE W σ) hgd hr I.env0 (hb.to s us ws I.kIn (r.length.symm.trans l1) (rz.length.symm.trans l2)) r2 h) fun r s' hq => ?_)
  cases r with
  | error e => exact passAt tk σ pins H s e s' I hq
  | ok fl =>
    cases fl with
    | ret u => exact I.after hq
    | next => exact False.elim hq
    | brk => exact False.elim hq
    | cont => exact False.elim hq
theorem s_call {f : Str} {e : Expr} {es : List Expr} {es' : List E} {sh : List (Nat ⊕ Val)} {p : Pos} (tk : Takes X W) (C : Callee X cl f (e :: es).length [] sh) (hg : Gl X f) (ha : SA X W cl (e :: es) es') (hle : es'.length = (e :: es).length)
    (hdb : (f == ("__debug__" : Str)) = false) (he : starEach (e :: es) X.env = (false, eval e X.env) :: starEach es X.env) (hpl : (backTo pos (starEach es X.env)).any (·.1) = false) :
    SE X W cl (.Call (.Name f p) (e :: es) [] pos) (.call f es' sh) := by
  obtain ⟨a, fd, ps, k, g, gV, hm, hk, hgd, hr, hb, F, hsh⟩ := C.ex
  refine ⟨fun pins s σ H Q I ⟨sl, m, cs, hs, hc, st⟩ => ?_⟩
  simp only [ev] at st
  refine wpAny_Call_Name_kw (ld_glob I hg hm ?_ hdb)
  refine PySem.W.callWith_K (h₀ := X.base) I.ok.mod.kin hk (thn (ha.run pos pins s σ H (fun us H1 => us.length = (e :: es).length ∧ ∃ vs m1 cs1, ARs (Cx.wd X) m1 H1 vs us ∧ CsR (Cx.wd X) m1 H1 cs1 ∧ Sat (Cx.wd X) (fun c d H' => W c d σ H') ((R.of (shape sh vs) cs1).bind fun vs cs => cl f vs cs) m1 H1 (QE (Cx.wd X) Q)) I ?_) fun us s1 ⟨vs, H1, I1, r, q⟩ => ⟨I1.kIn, ?_⟩) he hpl
  · have evl : ∀ {es' : List E} {sl : Slots} {cs : Cells} {vs : List Val} {cs' : Cells}, evs cl es' sl cs = .ok vs cs' → vs.length = es'.length := by
      intro es'
      induction es' with
      | nil => intro sl cs vs cs' q; simp only [evs] at q; cases q; rfl
      | cons x xs ih =>
        intro sl cs vs cs' q
        simp only [evs] at q
        cases q1 : ev cl x sl cs with
        | stuck => rw [q1] at q; cases q
        | ex y c => rw [q1] at q; cases q
        | ok v c =>
          rw [q1] at q
          simp only [R.bind_ok] at q
          cases q2 : evs cl xs sl c with
          | stuck => rw [q2] at q; cases q
          | ex y c => rw [q2] at q; cases q
          | ok ws c2 => rw [q2] at q; cases q; exact congrArg Nat.succ (ih q2)
    have st2 : Sat (Cx.wd X) (fun c d H' => W c d σ H') ((evs cl es' sl cs).bind fun vs cs => if vs.length = (e :: es).length then (R.of (shape sh vs) cs).bind fun vs cs => cl f vs cs else .stuck) m H (QE (Cx.wd X) Q) := by
      cases q : evs cl es' sl cs with
      | stuck => rw [q] at st; exact st.elim
      | ex x c => rw [q] at st; exact st
      | ok vs c =>
        rw [q] at st
        simp only [R.bind_ok] at st ⊢
        rw [if_pos ((evl q).trans hle)]
        exact st
    exact firsts hs hc st2 fun vs cs1 m1 H1 us e1 hs1 c1 r1 s1 => by
      split at s1
      · exact ⟨by rw [← r1.length]; assumption, vs, m1, cs1, r1, c1, s1⟩
      · exact s1.elim
  · obtain ⟨l, vs', m1, cs1, rs, c1, s1⟩ := q
    cases qs : shape sh vs' with
    | none => rw [qs] at s1; exact s1.elim
    | some vs2 =>
      rw [qs] at s1
      simp only [R.of_some, R.bind_ok] at s1
      obtain ⟨g1, g2⟩ := hsh m1 H1 vs' vs [] [] vs2 rs .nil l rfl (by rw [List.append_nil]; exact qs)
      exact run_callee (ks := []) (ws := []) (zs := []) F hgd hr hb tk I1 r .nil l rfl ⟨g2, vs2, m1, cs1, g1, c1, s1⟩

/-! ### a def is left -/
theorem VR.shrink {w : Wd} {c : List (Option Addr)} {z : List Addr} {H : Hp} {c' : List (Option Addr)} (h : ∀ a, some a ∈ c' → some a ∈ c) : Mon ⟨c, z⟩ H ⟨c', z⟩ H := fun a o q n => ⟨q, fun y => n (y.imp (h a) id)⟩
theorem CsR.take {w : Wd} {c : List (Option Addr)} {z : List Addr} {H : Hp} {cs : Cells} (h : CsR w ⟨c, z⟩ H cs) (L : Nat) : CsR w ⟨c.take L, z⟩ H (cs.take L) := by
  have sub : ∀ a, some a ∈ c.take L → some a ∈ c := fun a q => List.mem_of_mem_take q
  refine ⟨by have := h.len; simp at this ⊢; omega, fun i a q => ?_, fun i ce q nd => ?_, fun i j a q1 q2 => ?_, fun a q => ⟨(h.res a q).1, fun y => (h.res a q).2 (sub a y)⟩⟩
  · have q : (c.take L)[i]? = some (some a) := q
    rw [List.getElem?_take] at q
    split at q
    · obtain ⟨ce, h1, h2, h3⟩ := h.at_ i a q
      exact ⟨ce, by rw [List.getElem?_take, if_pos (by assumption)]; exact h1, h2.mon (VR.shrink (w := w) sub) rfl, h3⟩
    · cases q
  · rw [List.getElem?_take] at q
    split at q
    · obtain ⟨a, z⟩ := h.live i ce q nd
      exact ⟨a, by show (c.take L)[i]? = _; rw [List.getElem?_take, if_pos (by assumption)]; exact z⟩
    · cases q
  · have q1 : (c.take L)[i]? = some (some a) := q1
    have q2 : (c.take L)[j]? = some (some a) := q2
    rw [List.getElem?_take] at q1 q2
    split at q1
    · split at q2
      · exact h.inj i j a q1 q2
      · cases q2
    · cases q1
/-- some of the cells, in any order -/
theorem CsR.sel {w : Wd} {c c' : List (Option Addr)} {z : List Addr} {H : Hp} {cs cs' : Cells} (h : CsR w ⟨c, z⟩ H cs) (f : Nat → Nat) (hl : cs'.length = c'.length) (hc : ∀ j, j < c'.length → c'[j]? = c[f j]?) (hs : ∀ j, j < c'.length → cs'[j]? = cs[f j]?) (fi : ∀ i j, i < c'.length → j < c'.length → f i = f j → i = j) : CsR w ⟨c', z⟩ H cs' := by
  have sub : ∀ a, some a ∈ c' → some a ∈ c := fun a q => by
    obtain ⟨j, hj⟩ := List.mem_iff_getElem?.mp q
    rw [hc j (List.getElem?_eq_some_iff.mp hj).1] at hj
    exact List.mem_of_getElem? hj
  refine ⟨hl, fun i a q => ?_, fun i ce q nd => ?_, fun i j a q1 q2 => ?_, fun a q => ⟨(h.res a q).1, fun y => (h.res a q).2 (sub a y)⟩⟩
  · have q : c'[i]? = some (some a) := q
    have hi := (List.getElem?_eq_some_iff.mp q).1
    rw [hc i hi] at q
    obtain ⟨ce, h1, h2, h3⟩ := h.at_ (f i) a q
    exact ⟨ce, by rw [hs i hi]; exact h1, h2.mon (VR.shrink (w := w) sub) rfl, h3⟩
  · have hi : i < c'.length := by rw [← hl]; exact (List.getElem?_eq_some_iff.mp q).1
    rw [hs i hi] at q
    obtain ⟨a, z⟩ := h.live (f i) ce q nd
    exact ⟨a, by show c'[i]? = _; rw [hc i hi]; exact z⟩
  · have q1 : c'[i]? = some (some a) := q1
    have q2 : c'[j]? = some (some a) := q2
    have hi := (List.getElem?_eq_some_iff.mp q1).1
    have hj := (List.getElem?_eq_some_iff.mp q2).1
    rw [hc i hi] at q1
    rw [hc j hj] at q2
    exact fi i j hi hj (h.inj _ _ a q1 q2)
theorem Ext.take {m : MP} {H H' : Hp} {c : List (Option Addr)} {z : List Addr} (e : Ext m H ⟨c, z⟩ H') : Ext m H ⟨c.take m.c.length, z⟩ H' :=
  ⟨e.keep, by have := e.len; simp at this ⊢; omega, fun i o q => by
    have hi := (List.getElem?_eq_some_iff.mp q).1
    show (c.take m.c.length)[i]? = _ ∨ (c.take m.c.length)[i]? = _
    rw [List.getElem?_take, if_pos hi]
    exact e.at_ i o q, fun a q => e.new a (q.imp List.mem_of_mem_take id), e.z, e.zk⟩
theorem leave_ok {w : Wd} {Ew : XK} {r : R Out} {m : MP} {H : Hp} {Q : VK} {L : Nat} (hL : L = m.c.length) (s : Sat w Ew (leave L r) m H (QE w Q)) : Sat w Ew r m H (QO w { nx := fun _ H' => Q .non H', rt := Q }) := by
  subst hL
  cases r with
  | stuck => exact s
  | ex x cs =>
    rintro c d ⟨mc, mz⟩ H' e' c' ⟨n, ks, vs, C, h1, h2, h3, h4⟩
    have mo : Mon ⟨mc, mz⟩ H' ⟨mc.take m.c.length, mz⟩ H' := VR.shrink (w := w) fun a q => List.mem_of_mem_take q
    refine s c d ⟨mc.take m.c.length, mz⟩ H' e'.take (c'.take _) ⟨n, ks, vs, C, h1, h2, h3, ?_⟩
    rcases h4 with h4 | ⟨dd, us, g1, g2, g3, g4, g5⟩
    · exact .inl h4
    · exact .inr ⟨dd, us, g1, g2, g3, (mo _ _ g3 g4).2, g5.mon mo⟩
  | ok o cs =>
    rintro ⟨mc, mz⟩ H' e' c'
    have mo : Mon ⟨mc, mz⟩ H' ⟨mc.take m.c.length, mz⟩ H' := VR.shrink (w := w) fun a q => List.mem_of_mem_take q
    cases o with
    | nx sl => exact fun σ' hs' => s ⟨mc.take m.c.length, mz⟩ H' e'.take (c'.take _) .non (.val .non)
    | bk sl => exact s.elim
    | ct sl => exact s.elim
    | rt v =>
      intro u ru
      by_cases nr : noRef v = true
      · have e : leave m.c.length (.ok (.rt v) cs) = .ok v (cs.take m.c.length) := by
          cases v <;> first | rfl | cases nr
        rw [e] at s
        exact s ⟨mc.take m.c.length, mz⟩ H' e'.take (c'.take _) u (.val ((ru.tree nr).mon mo))
      · cases v with
        | ref i =>
          simp only [leave] at s
          split at s
          · rename_i hi
            have hl := e'.len
            refine s ⟨mc.take m.c.length, mz⟩ H' e'.take (c'.take _) u ?_
            cases ru with
            | val h => cases h
            | ref h => exact .ref (by show (mc.take m.c.length)[i]? = _; rw [List.getElem?_take, if_pos hi]; exact h)
            | dead h => exact .dead (by show (mc.take m.c.length)[i]? = _; rw [List.getElem?_take, if_pos hi]; exact h)
          · rename_i hi
            split at s
            · rename_i xs q
              obtain ⟨a, ys, rfl, qa, h1, h2⟩ := cell_list c' q ru
              refine s ⟨mc.take m.c.length, mz⟩ H' e'.take (c'.take _) (.ref a) (.val (.lst h1 (fun y => ?_) (h2.mon mo)))
              rcases y with y | y
              · obtain ⟨j, hj⟩ := List.mem_iff_getElem?.mp y
                have hj : (mc.take m.c.length)[j]? = some (some a) := hj
                rw [List.getElem?_take] at hj
                split at hj
                · have := c'.inj i j a qa hj; omega
                · cases hj
              · exact c'.nz qa y
            · rename_i kvs q
              obtain ⟨a, lvs, rfl, qa, h1, h2⟩ := cell_dict c' q ru
              have na : some a ∉ mc.take m.c.length := fun y => by
                obtain ⟨j, hj⟩ := List.mem_iff_getElem?.mp y
                rw [List.getElem?_take] at hj
                split at hj
                · have := c'.inj i j a qa hj; omega
                · cases hj
              have nz : a ∉ mz := c'.nz qa
              have hl := e'.len
              have ll : (mc.take m.c.length).length = m.c.length := by simp at hl ⊢; omega
              have e2 : Ext m H ⟨mc.take m.c.length ++ [some a], mz⟩ H' := by
                have et := e'.take
                refine ⟨et.keep, by simp at hl ⊢; omega, fun j o q => ?_, fun b q => ?_, et.z, et.zk⟩
                · have hj : j < (mc.take m.c.length).length := by rw [ll]; exact (List.getElem?_eq_some_iff.mp q).1
                  show (mc.take m.c.length ++ [some a])[j]? = _ ∨ (mc.take m.c.length ++ [some a])[j]? = _
                  rw [List.getElem?_append_left hj]
                  exact et.at_ j o q
                · rcases q with q | q
                  · rcases List.mem_append.mp q with q | q
                    · exact et.new b (.inl q)
                    · have eb : b = a := by simpa using q
                      exact e'.new b (.inl (by rw [eb]; exact List.mem_of_getElem? qa))
                  · exact et.new b (.inr q)
              have hcl : cs.length = mc.length := c'.len
              have hi2 : i < mc.length := (List.getElem?_eq_some_iff.mp qa).1
              have at1 : ∀ {β : Type} (l : List β) (x : β), l.length = mc.length → l[i]? = some x → ∀ j, j < m.c.length + 1 → (l.take m.c.length ++ [x])[j]? = l[if j < m.c.length then j else i]? := fun l x hlen hx j hj => by
                have ll2 : (l.take m.c.length).length = m.c.length := by simp at hl ⊢; omega
                by_cases hjl : j < m.c.length
                · rw [List.getElem?_append_left (by rw [ll2]; exact hjl), List.getElem?_take, if_pos hjl, if_pos hjl]
                · have ej : j = m.c.length := by omega
                  subst ej
                  rw [if_neg (by omega), hx, List.getElem?_append_right (by omega), ll2]
                  simp
              have lc : (mc.take m.c.length ++ [some a]).length = m.c.length + 1 := by simp at hl ⊢; omega
              refine s ⟨mc.take m.c.length ++ [some a], mz⟩ H' e2 (c'.sel (fun j => if j < m.c.length then j else i) (by simp at hl ⊢; omega) (fun j hj => at1 mc (some a) rfl qa j (by omega)) (fun j hj => at1 cs _ hcl q j (by omega)) fun p q hp hq e => ?_) (.ref a) (.ref ?_)
              · rw [lc] at hp hq
                have e : (if p < m.c.length then p else i) = (if q < m.c.length then q else i) := e
                split at e <;> split at e <;> omega
              · show (mc.take m.c.length ++ [some a])[m.c.length]? = _
                rw [List.getElem?_append_right (by omega), ll]
                simp
            · exact s.elim
        | _ => exact absurd rfl nr
end
end Ps

set_option maxHeartbeats 1000000
/-! PsStar: a, *b = xs; *a, b = xs; a, b = a list. -/
namespace Ps
open PySem L2 PyProof.Rows PySem.W PySem.Spec PySem.Calls
section
variable {X : Cx} {pins : List (Addr × Obj)} {σ : L2.St} {H : Hp} {s : Shared}
theorem star_end {A : Around} {E : Value → Shared → Prop} {its : List Value} {xs : List V} {n i : Nat} {Q : List Value → Shared → Prop} {h₂ : Heap} {tk : Nat} (I : Inv X pins σ H s) (rv : Vals xs its) (hz : xs.length ≤ sizeLine) (hi : i < n) (hn : n ≤ xs.length + 1)
    (he : Heap.ExtBut s.heap.objs.size s.heap h₂)
    (h : ∀ p us s', H p = none → Inv X pins σ (upd H p (.lst ((xs.drop i).take (xs.length + 1 - n)))) s' → Vals (starL n i (fun _ => V.ref p) xs) us → Q us s') :
    wpAny (model X.prog X.w) A (do
      if (its.drop i).length < n - 1 - i then
        rule "unpack.star.too-few"
        raiseError "ValueError" s!"not enough values to unpack (expected at least {n - 1}, got {i + (its.drop i).length})"
      return its.take i ++ [← newList ((its.drop i).take ((its.drop i).length - (n - 1 - i)))] ++ (its.drop i).drop ((its.drop i).length - (n - 1 - i))) Q E { s with heap := h₂, toks := tk } := by
  have hl := rv.length
  have hrl : (its.drop i).length = its.length - i := List.length_drop
  have hmid : (its.drop i).length - (n - 1 - i) = xs.length + 1 - n := by rw [hrl]; omega
  have I2 : Inv X pins σ H { s with heap := h₂, toks := tk } := I.kept fun b o e => he b o (Nat.ne_of_lt (Heap.lt_size e)) e
  rw [if_neg (by rw [hrl]; omega), hmid]
  refine wpAny_bind (wpAny_newList ?_ (by rw [List.length_take, hrl]; omega))
  refine wpAny_pure (h h₂.objs.size _ _ I2.fresh (I2.lnew (t' := tk) ((rv.drop i).take _) (by rw [List.length_take, List.length_drop]; omega)) ?_)
  have r1 : Vals [V.ref h₂.objs.size] [Value.ref h₂.objs.size] := .cons rfl .nil
  exact ((rv.take i).append r1).append ((rv.drop i).drop _)
theorem un_star {A : Around} {E : Value → Shared → Prop} {a : Addr} {xs : List V} {n i : Nat} {Q : List Value → Shared → Prop} (hh : A.handled = none) (I : Inv X pins σ H s) (hq : SqL X.K H a xs ∨ SqT X.K H a xs) (hi : i < n) (hn : n ≤ xs.length + 1)
    (h : ∀ p us s', H p = none → Inv X pins σ (upd H p (.lst ((xs.drop i).take (xs.length + 1 - n)))) s' → Vals (starL n i (fun _ => V.ref p) xs) us → Q us s') :
    wpAny (model X.prog X.w) A (unpackItems (.ref a) n (some i)) Q E s := by
  rcases hq with hq | hq
  · obtain ⟨its, rv, pl, hz⟩ := I.list hq
    have hl := pl.isList
    have hlen := rv.length
    have hlt : a ≠ s.heap.objs.size := by obtain ⟨o, ho, _⟩ := hl; exact Nat.ne_of_lt (Heap.lt_size ho)
    unfold unpackItems
    refine wpAny_bind ?_
    unfold notIterableAtAll
    refine wpAny_bind (wpAny_specialOf hl.typeIs slot_list_iter.lookup ?_)
    refine wpAny_pure ?_
    simp only [Bool.false_eq_true, if_false]
    refine wpAny_bind (wpAny_holding (wpAny_pyIter_list hl ?_))
    refine wpAny_bind (wpAny_holding (kun_draw hlt i 0 _ _ ⟨_, Heap.get?_push_size _ rfl, rfl, rfl⟩ (hl.push _) (by simp; omega) fun h₁ hit₁ hs₁ => ?_))
    have hl₁ : h₁.IsList a its.toArray := (hl.push _).extBut hs₁.extBut hlt
    rw [Nat.zero_add] at hit₁
    have hit₁' := hit₁
    obtain ⟨oi, hoi, _⟩ := hit₁'
    have hl₁' := hl₁
    obtain ⟨ol, hol, _⟩ := hl₁'
    rw [List.drop_zero]
    have hfl : (its.toArray.toList.take i).length = i := by rw [List.length_take]; simp; omega
    rw [if_neg (show ¬ ((its.toArray.toList.take i).length < i) by rw [hfl]; omega)]
    refine wpAny_bind (wpAny_holding (kun_collect (s := { s with heap := h₁ }) (T := "list_iterator") (.inr (.inr (.inl rfl))) (Walks.list (A := A.in1) hh s.heap.objs.size a hlt its.toArray) (fun j u st => st.1.typeIs) (k := i) (by simp; omega) ⟨hit₁, hl₁⟩ (Heap.lt_size hoi) (Heap.lt_size hol) (fun h₂ tk hk => ?_) (by simp; omega)))
    exact star_end (s := s) I rv hz hi hn (fun b o hb e => hk b o hb (hs₁.extBut b o hb (Heap.get?_push_of_some _ e))) h
  · obtain ⟨its, rv, hl, hz⟩ := I.tuple hq
    have hlen := rv.length
    have hlt : a ≠ s.heap.objs.size := by obtain ⟨o, ho, _⟩ := hl; exact Nat.ne_of_lt (Heap.lt_size ho)
    unfold unpackItems
    refine wpAny_bind ?_
    unfold notIterableAtAll
    refine wpAny_bind (wpAny_specialOf hl.typeIs slot_tuple_iter.lookup ?_)
    refine wpAny_pure ?_
    simp only [Bool.false_eq_true, if_false]
    refine wpAny_bind (wpAny_holding (iter_tuple hl ?_))
    refine wpAny_bind (wpAny_holding (draw_tuple hlt i 0 _ _ ⟨_, Heap.get?_push_size _ rfl, rfl, rfl⟩ (hl.push _) (by simp; omega) fun h₁ hit₁ hs₁ => ?_))
    have hl₁ : IsTup h₁ a its.toArray := (hl.push _).extBut hs₁.extBut hlt
    rw [Nat.zero_add] at hit₁
    have hit₁' := hit₁
    obtain ⟨oi, hoi, _⟩ := hit₁'
    have hl₁' := hl₁
    obtain ⟨ol, hol, _⟩ := hl₁'
    rw [List.drop_zero]
    have hfl : (its.toArray.toList.take i).length = i := by rw [List.length_take]; simp; omega
    rw [if_neg (show ¬ ((its.toArray.toList.take i).length < i) by rw [hfl]; omega)]
    refine wpAny_bind (wpAny_holding (kun_collect (s := { s with heap := h₁ }) (T := "tuple_iterator") (.inr (.inr (.inr rfl))) (Walks.tuple (A := A.in1) hh s.heap.objs.size a hlt its.toArray) (fun j u st => st.1.typeIs) (k := i) (by simp; omega) ⟨hit₁, hl₁⟩ (Heap.lt_size hoi) (Heap.lt_size hol) (fun h₂ tk hk => ?_) (by simp; omega)))
    exact star_end (s := s) I rv hz hi hn (fun b o hb e => hk b o hb (hs₁.extBut b o hb (Heap.get?_push_of_some _ e))) h
def gStar (K : PySem.W.Frag) (n i : Nat) (t : TGs) : TG := fun v σ H Q => ∃ a xs, v = .ref a ∧ (SqL K H a xs ∨ SqT K H a xs) ∧ i < n ∧ n ≤ xs.length + 1 ∧ ∀ p, H p = none → t (starL n i (fun _ => V.ref p) xs) σ (upd H p (.lst ((xs.drop i).take (xs.length + 1 - n)))) Q
theorem pg_star {es : List Expr} {k : Nat} {t : TGs} {n i : Nat} {pos : Pos} (hc : X.calm = true) (h : PGs X es t) (hn : (assignEach es X.env).length = n) (hst : (assignEach es X.env).findIdx? (·.1) = some i) : PG X (.Tuple es k pos) (gStar X.K n i t) := by
  refine ⟨fun pins s σ H v u Q I r hw => ?_⟩
  obtain ⟨a, xs, e1, hq, h1, h2, hw⟩ := hw
  subst e1
  cases r
  rw [PyProof.Rows.assign_Tuple]
  refine wpAny_bind (wpAny_standAt ?_)
  unfold unpack
  rw [hn, hst]
  refine wpAny_bind (wpAny_holding (un_star (I.ok.hd hc) I hq h1 h2 fun p us s' np I1 rv => ?_))
  exact h.run pins _ σ _ _ _ Q I1 rv (hw p np)
/-- a, b = xs: a list or a tuple of that length -/
def gSeq (K : PySem.W.Frag) (n : Nat) (t : TGs) : TG := fun v σ H Q => ∃ a xs, v = .ref a ∧ (SqL K H a xs ∨ SqT K H a xs) ∧ xs.length = n ∧ t xs σ H Q
theorem pg_seq {es : List Expr} {k : Nat} {t : TGs} {n : Nat} {pos : Pos} (hc : X.calm = true) (h : PGs X es t) (hn : (assignEach es X.env).length = n) (hst : (assignEach es X.env).findIdx? (·.1) = none) : PG X (.Tuple es k pos) (gSeq X.K n t) := by
  refine ⟨fun pins s σ H v u Q I r ⟨a, xs, e1, hq, h1, hw⟩ => ?_⟩
  rcases hq with hq | hq
  · exact (pg_lst hc h hn hst).run pins s σ H v u Q I r ⟨a, xs, e1, hq, h1, hw⟩
  · exact (pg_tup hc h hn hst).run pins s σ H v u Q I r ⟨a, xs, e1, hq, h1, hw⟩
theorem seqT_at {w : Wd} {m : MP} {H : Hp} {v : Val} {xs : List Val} {u : V} (e : seqT v = some xs) (r : AR w m H v u) : ∃ a ys, u = .ref a ∧ (SqL w.K H a ys ∨ SqT w.K H a ys) ∧ VRs w m H xs ys := by
  cases v with
  | tup zs =>
    cases e
    obtain ⟨a, ys, rfl, h1, h2⟩ := r.tup
    exact ⟨a, ys, rfl, .inr h1.sq, h2⟩
  | lst zs =>
    cases e
    cases r with | val r => cases r with | lst h1 h2 h3 => exact ⟨_, _, rfl, .inl (.inl (.inl h1)), h3⟩
  | fro zs =>
    cases e
    cases r with | val r => cases r with | fro h1 h2 => exact ⟨_, _, rfl, .inl h1.sq, h2⟩
  | _ => cases e
variable {W : WX} {cl : Cl} {pos : Pos}
theorem s_brk : SS X W cl (.Break pos) .brk := by
  refine ps_break.weak fun D σ H ⟨sl, m, cs, hs, hc, s⟩ => ?_
  simp only [ex] at s
  exact s m H (Ext.refl _ _) hc σ hs
theorem s_cont : SS X W cl (.Continue pos) .cont := by
  refine ps_continue.weak fun D σ H ⟨sl, m, cs, hs, hc, s⟩ => ?_
  simp only [ex] at s
  exact s m H (Ext.refl _ _) hc σ hs
theorem starL_vr {w : Wd} {m : MP} {H : Hp} {n i : Nat} {c : List Val → Val} {d : List V → V} {xs : List Val} {ys : List V} (r : VRs w m H xs ys) (rc : VR w m H (c ((xs.drop i).take (xs.length + 1 - n))) (d ((ys.drop i).take (ys.length + 1 - n)))) : VRs w m H (starL n i c xs) (starL n i d ys) := by
  unfold starL
  rw [← r.length] at rc ⊢
  exact ((r.take i).append (.cons rc .nil)).append ((r.drop i).drop _)
theorem sat_ofO {w : Wd} {Ew : XK} {α : Type} {o : Option α} {cs : Cells} {f : α → Cells → R Out} {m : MP} {H : Hp} {P : Out → Cells → MP → Hp → Prop} (s : Sat w Ew ((R.of o cs).bind f) m H P) : ∃ x, o = some x ∧ Sat w Ew (f x cs) m H P := by
  cases o with
  | none => exact s.elim
  | some x => exact ⟨x, rfl, s⟩
theorem s_star {es : List Expr} {e : Expr} {e' : E} {ts : List Nat} {i k : Nat} {p : Pos} {g : TGs} (hc : X.calm = true) (pg : PGs X es g)
    (hg : ∀ m H σ sl vs us sl' (Q : L2.St → Hp → Prop), SloR (Cx.wd X) m H σ sl → VRs (Cx.wd X) m H vs us → asgTs (ts.map .nm) vs sl = some sl' → (∀ σ', SloR (Cx.wd X) m H σ' sl' → Q σ' H) → g us σ H Q)
    (hn : (assignEach es X.env).length = ts.length) (hst : (assignEach es X.env).findIdx? (·.1) = some i) (he : SE X W cl e e')
    (hs : swapsWithSole [.Tuple es k p] e pos.line X.env = pure false) (hw : swappedStores [.Tuple es k p] e X.env = pure none) : SS X W cl (.Assign [.Tuple es k p] e pos) (.star ts i e') := by
  refine (ps_asg he (pg_star hc pg hn hst) hs hw rfl).weak fun D σ H ⟨sl, m, cs, hs, hcs, s⟩ => ?_
  simp only [ex] at s
  refine inS hs hcs s fun x cs1 m1 H1 u e1 hs1 c1 r1 s1 => ?_
  obtain ⟨xs, q1, s1⟩ := sat_ofO s1
  obtain ⟨a, ys, rfl, h1, h2⟩ := seqOf_at c1 q1 r1
  split at s1
  · rename_i hk
    have hl := h2.length
    refine ⟨a, ys, rfl, h1, hk.1, by rw [← hl]; exact hk.2, fun q nq => ?_⟩
    obtain ⟨sl2, q2, s2⟩ := sat_ofO s1
    have nh := c1.free nq
    have ea : Ext m1 H1 m1 (upd H1 q (.lst ((ys.drop i).take (ys.length + 1 - ts.length)))) := Ext.alloc nq nh
    refine hg m1 _ σ sl (starL ts.length i .lst xs) _ sl2 _ (hs1.ext ea) (starL_vr (c := .lst) (d := fun _ => .ref q) (h2.ext ea) ?_) q2 fun σ' hs' => s2 m1 _ ea (c1.alloc nq) σ' hs'
    refine .lst upd_same nh ?_
    rw [hl]
    exact ((h2.ext ea).drop i).take _
  · exact s1.elim
end
end Ps

set_option maxHeartbeats 1000000
/-! PsOwn: lists of our own, their methods. -/
namespace Ps
open PySem L2
section
variable {X : Cx} {W : WX} {cl : Cl} {m : MP} {H : Hp} {cs : Cells} {Ew : XK} {Q : VK} {w : Wd}
theorem sat_own {zs : List Val} {ys : List V} (c : CsR w m H cs) (s : Sat w Ew (.ok (.ref cs.length) (cs ++ [.list zs])) m H (QE w Q)) (r : VRs w m H zs ys) (p : Addr) (n : H p = none) : Q (.ref p) (upd H p (.lst ys)) :=
  s ⟨m.c ++ [some p], m.z⟩ _ (Ext.own n (c.free n)) (c.own n ⟨ys, upd_same, r.ext (Ext.own n (c.free n))⟩) (.ref p) (.ref (by show (m.c ++ [some p])[cs.length]? = _; rw [c.len]; simp))
theorem s_ownLst {es : List Expr} {es' : List E} {pos : Pos} (h : SA X W cl es es') : SE X W cl (.List es pos) (.own (.lst es')) := by
  refine (pe_lst h).weak fun σ H Q ⟨sl, m, cs, hs, hc, s⟩ => ?_
  simp only [ev] at s
  have s' : Sat (Cx.wd X) (fun c d H' => W c d σ H') ((evs cl es' sl cs).bind fun vs cs => if (vs.all noRef && decide (vs.length ≤ sizeLine)) = true then .ok (.ref cs.length) (cs ++ [.list vs]) else .stuck) m H (QE (Cx.wd X) Q) := by
    cases q : evs cl es' sl cs with
    | stuck => rw [q] at s; exact s.elim
    | ex x cs' => rw [q] at s; exact s
    | ok vs cs' =>
      rw [q] at s
      simp only [R.bind_ok] at s ⊢
      split at s
      · rename_i hk
        rw [if_pos hk]
        exact s
      · exact s.elim
  refine firsts hs hc s' fun xs cs1 m1 H1 us e1 hs1 c1 r1 s1 => ?_
  split at s1
  · rename_i hk
    rw [Bool.and_eq_true] at hk
    exact ⟨by rw [← r1.length]; exact of_decide_eq_true hk.2, sat_own c1 s1 (r1.trees hk.1)⟩
  · exact s1.elim
/-! ### methods -/
def lmPy : Lm → Str × String
  | .append => ("append", "list.append")
  | .insert => ("insert", "list.insert")
  | .extend => ("extend", "list.extend")
  | .pop => ("pop", "list.pop")
def rLm : Lm → V → List V → Hp → VK → Prop
  | .append => rAppend
  | .insert => fun x vs H Q => ∃ (l : Addr) (xs : List V) (i : Int) (y : V), x = .ref l ∧ vs = [.int i, y] ∧ H l = some (.lst xs) ∧ xs.length < sizeLine ∧ 0 ≤ i ∧ i < 2 ^ 63 ∧ Q .non (upd H l (.lst (xs.take i.toNat ++ [y] ++ xs.drop i.toNat)))
  | .extend => rExtend
  | .pop => rPop
theorem lm_call : ∀ p : Lm, MtR X (lmPy p).2 (rLm p)
  | .append => mt_append
  | .insert => mt_insert
  | .extend => mt_extend
  | .pop => mt_pop
theorem lm_slot : ∀ p : Lm, Slot "list" (lmPy p).1 (lmPy p).2 ∧ typeOf (.builtin (lmPy p).2) = pure (.type "method_descriptor")
  | .append => ⟨PySem.F.slot_list_append, PySem.F.type_list_append⟩
  | .insert => ⟨PySem.F.slot_list_insert, PySem.F.type_list_insert⟩
  | .extend => ⟨PySem.F.slot_list_extend, PySem.F.type_list_extend⟩
  | .pop => ⟨PySem.F.slot_list_pop, PySem.F.type_list_pop⟩
/-- a cell of ours is written -/
theorem sat_write {i : Nat} {a : Addr} {zs : List Val} {ys : List V} {x : Val} {u : V} (c : CsR w m H cs) (q : m.c[i]? = some (some a)) (s : Sat w Ew (.ok x (cs.set i (.list zs))) m H (QE w Q)) (r : VRs w m H zs ys) (ru : VR w m H x u) : Q u (upd H a (.lst ys)) := by
  have e := Ext.write (o := .lst ys) (H := H) q (c.nz q)
  exact s m _ e (c.write q ⟨ys, upd_same, r.ext e⟩) u (.val (ru.ext e))
theorem lm_ok {p : Lm} {x : Val} {u : V} {vs : List Val} {us : List V} (c : CsR (Cx.wd X) m H cs) (rx : AR (Cx.wd X) m H x u) (rs : ARs (Cx.wd X) m H vs us) (s : Sat (Cx.wd X) Ew (lmethV p x vs cs) m H (QE (Cx.wd X) Q)) : rLm p u us H Q := by
  unfold lmethV at s
  split at s
  · rename_i i
    split at s
    · rename_i xs q
      obtain ⟨a, ys, rfl, qa, h1, h2⟩ := cell_list c q rx
      split at s
      · rename_i v
        split at s
        · rename_i hk
          rw [Bool.and_eq_true] at hk
          cases rs with
          | cons r t =>
            cases t
            exact ⟨a, ys, _, rfl, rfl, h1, by rw [← h2.length]; exact of_decide_eq_true hk.2, sat_write c qa s (h2.append (.cons (r.tree hk.1) .nil)) .non⟩
        · exact s.elim
      · rename_i k v
        split at s
        · rename_i hk
          simp only [Bool.and_eq_true, decide_eq_true_eq] at hk
          cases rs with
          | cons r t =>
            cases t with
            | cons r2 t =>
              cases t
              rw [r.int]
              exact ⟨a, ys, k, _, rfl, rfl, h1, by rw [← h2.length]; exact hk.1.1.2, hk.1.2, hk.2, sat_write c qa s (((h2.take _).append (.cons (r2.tree hk.1.1.1) .nil)).append (h2.drop _)) .non⟩
        · exact s.elim
      · rename_i zs
        split at s
        · rename_i hk
          have hk := of_decide_eq_true hk
          cases rs with
          | cons r t =>
            cases t
            cases r with
            | val r =>
              cases r with
              | lst hb nb rb =>
                exact ⟨a, _, ys, _, rfl, rfl, h1, hb, by rw [← h2.length, ← rb.length]; exact hk, sat_write c qa s (h2.append rb) .non⟩
        · exact s.elim
      · cases rs
        cases qy : xs[xs.length - 1]? with
        | none => rw [qy] at s; exact s.elim
        | some y =>
          rw [qy] at s
          simp only [R.of_some, R.bind_ok] at s
          obtain ⟨v, e, rv⟩ := h2.get qy
          rw [h2.length] at e
          refine ⟨a, ys, v, rfl, rfl, h1, e, sat_write c qa s ?_ rv⟩
          rw [List.dropLast_eq_take, List.dropLast_eq_take, h2.length]
          exact h2.take _
      · exact s.elim
    · exact s.elim
  · exact s.elim
theorem listW_ty {x : Val} {u : V} {zs : List Val} (c : CsR (Cx.wd X) m H cs) (rx : AR (Cx.wd X) m H x u) (e : listW cs x = some zs) : tyV X.K "list" u H := by
  have e2 : listOf cs x = some zs := by
    cases x <;> simp_all [listW, listOf]
  obtain ⟨a, ys, rfl, h1, h2⟩ := listOf_at c e2 rx
  exact .inl ⟨rfl, _, h1⟩
theorem s_lmeth {p : Lm} {name : Str} {o e : Expr} {es : List Expr} {o' : E} {es' : List E} {apos pos : Pos} (hx : (lmPy p).1 = name) (ho : SE X W cl o o') (ha : SA X W cl (e :: es) es') (hs : starEach (e :: es) X.env = (false, eval e X.env) :: starEach es X.env) (hpl : (backTo pos (starEach es X.env)).any (·.1) = false)
    (hfew : ((backTo pos (starEach (e :: es) X.env)).all (fun x => !x.1) && (backToKw pos (keywordEach [] X.env)).all (fun x => x.1.isSome)
      && decide ((e :: es).length + ([] : List Keyword).length + (if ([] : List Keyword).isEmpty then 0 else 1) < 30)) = true)
    (hbase : attributeBase o name X.env (eval o X.env) = eval o X.env) (hline : (apos.endLine == pos.line) = true) :
    SE X W cl (.Call (.Attribute o name apos) (e :: es) [] pos) (.lmeth p o' es') := by
  subst hx
  refine (pe_bm PySem.F.plainAttrs_list (lm_slot p).1 (lm_slot p).2 (lm_call p) ho ha hbase hfew hline hs hpl).weak fun σ H Q ⟨sl, m, cs, hs, hc, s⟩ => ?_
  simp only [ev] at s
  refine first hs hc s fun x cs1 m1 H1 u e1 hs1 c1 r1 s1 => ?_
  split at s1
  · rename_i zs q
    refine ⟨listW_ty c1 r1 q, ?_⟩
    exact firsts hs1 c1 s1 fun vs cs2 m2 H2 us e2 hs2 c2 r2 s2 => lm_ok c2 (r1.ext e2) r2 s2
  · exact s1.elim
theorem s_lmeth0 {p : Lm} {name : Str} {o : Expr} {o' : E} {apos pos : Pos} (hx : (lmPy p).1 = name) (ho : SE X W cl o o') (hbase : attributeBase o name X.env (eval o X.env) = eval o X.env) (hline : (apos.endLine == pos.line) = true) :
    SE X W cl (.Call (.Attribute o name apos) [] [] pos) (.lmeth p o' []) := by
  subst hx
  refine (pe_bm0 PySem.F.plainAttrs_list (lm_slot p).1 (lm_slot p).2 (lm_call p) ho hbase hline).weak fun σ H Q ⟨sl, m, cs, hs, hc, s⟩ => ?_
  simp only [ev] at s
  refine first hs hc s fun x cs1 m1 H1 u e1 hs1 c1 r1 s1 => ?_
  split at s1
  · rename_i zs q
    simp only [evs, R.bind_ok] at s1
    exact ⟨listW_ty c1 r1 q, lm_ok c1 r1 .nil s1⟩
  · exact s1.elim
theorem s_bad {e : Expr} : SE X W cl e .bad := ⟨fun pins s σ H Q I ⟨_, _, _, _, _, z⟩ => z.elim⟩
theorem t_bad {e : Expr} : ST X W cl e .bad := ⟨fun pins s σ H Q I ⟨_, _, _, _, _, z⟩ => z.elim⟩
theorem ss_bad {s : Stmt} : SS X W cl s .bad := ⟨fun pins s σ H Q I ⟨_, _, _, _, _, z⟩ => z.elim⟩
end
end Ps

set_option maxHeartbeats 2000000
/-! PsExc: exceptions raised, caught, kept as values, asked for their class. -/
namespace L2
open PySem
section
variable {X : Cx} {pins : List (Addr × Obj)} {σ : St} {H : Hp} {s : Shared}
/-- what stands at a, new since the def was entered, is tracked from now on -/
theorem Inv.adopt {a : Addr} {o : HO} (I : Inv X pins σ H s) (n0 : X.s_0.heap.get? a = none) (hn : H a = none) (nL : a ≠ X.env.locals) (nC : ∀ x c, X.env.cells.lookup x = some c → c ≠ a) (nP : ∀ p ∈ X.pn ++ pins, p.1 ≠ a) (new : ObjOk X.prog X.w (upd H a o) s.heap a o) : Inv X pins σ (upd H a o) s :=
  ⟨I.ok, I.os, I.bare, ⟨I.base.keep, I.base.slot, fun b u q n x => by
      have hb : b ≠ a := fun z => by rw [z, n0] at q; cases q
      rw [upd_ne hb]
      exact I.base.free b u q n x, I.base.there, fun b xs q => by
      have q2 := I.base.tups b xs q
      rw [upd_ne (ne_of_none q2 hn)]; exact q2, fun b ob u q => by
      have q2 := I.base.frzs b ob u q
      rw [upd_ne (ne_of_none q2 hn)]; exact q2, fun b ps q => by
      obtain ⟨mo, q2⟩ := I.base.tbls b ps q
      exact ⟨mo, by rw [upd_ne (ne_of_none q2 hn)]; exact q2⟩⟩, I.loc, I.cell, by rw [upd_ne (Ne.symm nL)]; exact I.free, fun x c e => by rw [upd_ne (nC x c e)]; exact I.freeC x c e, fun p hp => by
      obtain ⟨h1, h2, h3, h4, h5⟩ := I.pin p hp
      exact ⟨h1, by rw [upd_ne (nP p hp)]; exact h2, h3, h4, h5⟩, I.hok.laidN (fun _ _ q => q) hn new, I.len⟩
theorem Inv.suite0 (I : Inv X pins σ H s) (a : Addr) : Inv (X.suite a (X.pn ++ pins)) [] σ H s :=
  ⟨I.ok.suite _ _, I.os, I.bare, I.base, I.loc, I.cell, I.free, I.freeC, fun p hp => I.pin p (by simpa using hp), I.hok, I.len⟩
theorem Inv.unsuite0 {a : Addr} {pn' : List (Addr × Obj)} (I : Inv (X.suite a (X.pn ++ pins)) pn' σ H s) (ok : X.Ok) : Inv X pins σ H s :=
  ⟨ok, I.os, I.bare, I.base, I.loc, I.cell, I.free, I.freeC, fun p hp => I.pin p (List.mem_append_left _ hp), I.hok, I.len⟩
end
end L2
namespace Ps
open PySem L2
theorem exv_ok {P : Program} {w : World} {H : Hp} {h : Heap} {a : Addr} {cls : Value} {d : Option Addr} {oe : Obj} {vs : Array Value} (e : h.get? a = some oe) (z : Zc cls d oe) (k : oe.data = .fields vs) : ObjOk P w H h a (exv a cls d) :=
  ⟨⟨oe, vs, e, z, k⟩, ⟨oe, e⟩, fun _ _ ⟨o, v, q, r⟩ kk => ⟨o, v, kk o q, r⟩⟩
/-- what 'except x as n' wants of an exception, which is kept as a value -/
def wAsV (K : PySem.W.Frag) (c : Value) (i : Nat) (ts : TS) (Wout : WX) (D : Ends) : WX := fun cls d σ H => ∃ b, PySem.W.exmOne K cls c = some b ∧
  (b = true → ∀ a, H a = none → ts ⟨fun σ' H' => D.nx (σ'.set i none) H', D.rt, fun σ' H' => D.bk (σ'.set i none) H', fun σ' H' => D.ct (σ'.set i none) H'⟩ (σ.set i (some (.ref a))) (upd H a (exv a cls d))) ∧ (b = false → Wout cls d σ H)
section
variable {X : Cx} {x n : Str} {c : Value} {i : Nat} {body suite : List Stmt} {b0 : Stmt} {np pos pos' : Pos} {tb : WX → TS} {ts : TS} {Wout : WX}
/-- the caught exception is where the new state can hold it -/
theorem caught_in {pins : List (Addr × Obj)} {σ : L2.St} {H : Hp} {sI s' : Shared} {B : Heap} {a : Addr} {oe : Obj} {vs : Array Value} {cls : Value} {d : Option Addr} (hex : X.ex = []) (J : Inv X pins σ H sI) (nb : ∀ b o, sI.heap.get? b = some o → b ∉ frs X.stack → B.get? b = some o)
    (na : H a = none) (nB : B.get? a = none) (nfr : a ∉ frs X.stack) (nL : a ≠ X.env.locals) (J4 : Inv X pins σ H s') (he : s'.heap.get? a = some oe) (hz : Zc cls d oe) (hd : oe.data = .fields vs) : Inv X pins σ (upd H a (exv a cls d)) s' := by
  have nI : sI.heap.get? a = none := by
    cases q : sI.heap.get? a with
    | none => rfl
    | some o => have z := nb a o q nfr; rw [nB] at z; cases z
  refine J4.adopt ?_ na nL (fun y cc e z => ?_) (fun p hp z => ?_) (exv_ok he hz hd)
  · cases q : X.s_0.heap.get? a with
    | none => rfl
    | some o =>
      obtain ⟨o', z⟩ := J.base.there a o q (by rw [hex]; simp)
      rw [nI] at z; cases z
  · obtain ⟨v, oc, h1, h2⟩ := J4.cell y cc e
    rw [z, he] at h1
    cases h1
    rw [hd] at h2; cases h2
  · have := (J.pin p hp).1
    rw [z, nI] at this; cases this
theorem ps_try_val (hex : X.ex = []) (hs : X.stack = X.env :: X.outer) (hf : X.env.frame = some X.env.locals) (hN : X.N.Nodup) (hi : X.N[i]? = some n) (hln : X.env.kindOf n = some .local) (hc : Names X x c) (tk : Takes X Wout)
    (hb : ∀ (W : WX) (pn : List (Addr × Obj)) (xe : Value → Shared → Prop), Takes (X.tr pn xe) W → PassesOwn (model X.prog X.w) X.A X.env xe → PSs (X.tr pn xe) body (tb W))
    (hsu : ∀ (a : Addr) (pn : List (Addr × Obj)), PSs (X.suite a pn) (b0 :: suite) ts) :
    PS X (.Try body [.ExceptHandler (some (.Name x np)) (some n) (b0 :: suite) pos'] [] [] pos) (fun D σ H => tb (wAsV X.K c i ts Wout D) D σ H) := by
  refine ⟨fun pins s σ H D I h => ?_⟩
  have ok := I.ok
  have fr : X.A.frames = some (X.env :: X.outer) := by rw [ok.frames, hs]
  refine wpAny_Try_except (wpAny_mono ((hb (wAsV X.K c i ts Wout D) (X.pn ++ pins) (fun e s1 => wpAny (model X.prog X.w) X.A (noteFrame e X.env) (fun _ s2 => wpAny (model X.prog X.w) X.A (setFlight e none) (fun _ s3 => wpAny (model X.prog X.w) X.A (handleBy e X.env [.ExceptHandler (some (.Name x np)) (some n) (b0 :: suite) pos']) (SP X pins D) X.xe s3) X.xe s2) X.xe s1) (fun u s' xx => ?_) PassesOwn.looking).run [] s σ H D (I.toTry _) h) (fun f s1 hsp => ?_) fun e s1 he => he)
  · obtain ⟨a, B, sI, pins', τ, H', cls, d, rfl, J', nb, up, sky, na, os, ag, b, hb1, yes, no⟩ := xx
    have J : Inv X pins τ H' sI := J'.ofTry ok
    refine Sky.land Zc.steady fr hf (by rw [← hs]; exact sky) fun h3 fl3 up3 => ?_
    have J3 : Inv X pins τ H' { s' with heap := h3 } := J.landed nb fl3.1 (up.trans up3) os ag
    obtain ⟨oe, vs, he, hz, hd⟩ := fl3.there
    have nfr : a ∉ frs (X.env :: X.outer) := fun hm => by
      obtain ⟨_, o', e', hnf⟩ := fl3.2.2.1.mem hm
      rw [he] at e'; cases e'
      exact hnf _ hd
    have nL : a ≠ X.env.locals := fun z => nfr (List.mem_filterMap.mpr ⟨X.env, List.mem_cons_self, by rw [hf, z]⟩)
    have S3 := J3.suite0 a
    have LM := PySem.W.exm_one (M := model X.prog X.w) J3.kIn (fun A Q E s k q => wpAny_typeOf_ref (k _ _ he) (by rw [hz.1]; exact q)) hb1
    refine wpAny_handleBy_cons (codeAny_handlers_test ?_) (by intro q; cases q)
    have test : ∀ {Q : Value → Shared → Prop} {E : Value → Shared → Prop}, Q c { s' with heap := h3 } → wpAny (model X.prog X.w) (X.A.mark (some (.ref a))) (eval (.Name x np) X.env) Q E { s' with heap := h3 } := fun {Q E} q => by
      obtain ⟨hg, hdb, hm | ⟨hm, hv, hnn⟩⟩ := hc
      · exact ld_glob (X := X.suite a (X.pn ++ pins)) S3 hg hm q hdb
      · exact ld_blt (X := X.suite a (X.pn ++ pins)) S3 hg hm hv q hnn hdb
    refine test (LM.here ?_)
    cases b with
    | true =>
      refine codeAny_handlers_suite_as (HandSPX.lands_againZ fl3 fun h4 fl4 up4 => ?_)
      obtain ⟨oe4, vs4, he4, hz4, hd4⟩ := fl4.there
      have J4 := caught_in hex J nb na fl4.2.1 (by rw [hs]; exact nfr) nL (J.landed (s' := { s' with heap := h4 }) nb fl4.1 ((up.trans up3).trans up4) os ag) he4 hz4 hd4
      refine store_ok (X := X.suite a (X.pn ++ pins)) (v := .ref a) (J4.suite0 a) hN hi (.inl hln) rfl (fun s5 S5 => ?_) (.inr hln)
      refine wpAny_mono ((hsu a (X.pn ++ pins)).run [] s5 _ _ _ S5 (yes rfl a na)) (fun f s6 hsp => ?_) fun _ _ z => z.elim
      have fin : ∀ {σ6 : L2.St} {H6 : Hp} {Q : Shared → Prop}, Inv (X.suite a (X.pn ++ pins)) [] σ6 H6 s6 → (∀ s7, Inv X pins (σ6.set i none) H6 s7 → Q s7) → wpAny (model X.prog X.w) X.A (do bindName X.env n .none; unbindBehindTheSuite X.env n pos') (fun _ s7 => Q s7) X.xe s6 := fun S6 hq => gone_ok (S6.unsuite0 ok) hN hi hln hq
      cases f with
      | next => obtain ⟨σ6, H6, S6, q6⟩ := hsp; exact fin S6 fun s7 J7 => ⟨_, _, J7, q6⟩
      | brk => obtain ⟨σ6, H6, S6, q6⟩ := hsp; exact fin S6 fun s7 J7 => ⟨_, _, J7, q6⟩
      | cont => obtain ⟨σ6, H6, S6, q6⟩ := hsp; exact fin S6 fun s7 J7 => ⟨_, _, J7, q6⟩
      | ret u => obtain ⟨v6, σ6, H6, S6, r6, q6⟩ := hsp; exact fin S6 fun s7 J7 => ⟨_, _, _, J7, r6, q6⟩
    | false =>
      refine wpAny_handleBy_nil ?_
      obtain ⟨k1, k2, k3, ox, ws, T, oT, ts', hx, hzx, hdx, h1, hr⟩ := id fl3
      unfold PySem.passOn
      refine wpAny_bind (wpAny_field hx hdx h1 ?_)
      rw [if_neg (show ¬ ((Value.ref T == Value.none) = true) from by simp)]
      have last : wpAny (model X.prog X.w) X.A (setFlight (.ref a) X.env.frame) (fun _ s4 => wpAny (model X.prog X.w) X.A (throw (.ref a) : Sem Flow) (SP X pins D) X.xe s4) X.xe { s' with heap := h3 } := by
        rw [hf]
        exact HandSPX.setFlight_upZ fl3 fun h4 hh4 up4 => wpAny_throw (tk _ _ ⟨a, B, sI, pins, τ, H', cls, d, rfl, J, nb, (up.trans up3).trans up4, .inr (.inr (by rw [hs]; exact hh4)), na, os, ag, no rfl⟩)
      first | exact wpAny_bind (wpAny_pure (wpAny_bind last)) | exact wpAny_bind last
  · cases f with
    | next => obtain ⟨σ', H', J', q⟩ := hsp; exact wpAny_execs_nil ⟨σ', H', J'.ofTry ok, q⟩
    | brk => obtain ⟨σ', H', J', q⟩ := hsp; exact ⟨σ', H', J'.ofTry ok, q⟩
    | cont => obtain ⟨σ', H', J', q⟩ := hsp; exact ⟨σ', H', J'.ofTry ok, q⟩
    | ret u => obtain ⟨v, σ', H', J', r, q⟩ := hsp; exact ⟨v, σ', H', J'.ofTry ok, r, q⟩
end
end Ps

set_option maxHeartbeats 2000000
/-! PsZip3: zip walked: of lists and tuples, strict or not. -/
namespace L2
open PySem PySem.Spec PyProof.Rows Ps
/-- a tuple, or a list -/
def SqK (t : Bool) (K : PySem.W.Frag) (H : Hp) (a : Addr) (xs : List V) : Prop := match t with
  | true => SqT K H a xs
  | false => SqL K H a xs
def ItS (t : Bool) (h : Heap) (it a : Addr) (i : Nat) : Prop := match t with
  | true => h.IsTupleIter it a i
  | false => h.IsListIter it a i
def SeqS (t : Bool) (h : Heap) (a : Addr) (its : Array Value) : Prop := match t with
  | true => h.IsTuple a its
  | false => h.IsList a its
def itO (t : Bool) (a : Addr) : Obj := match t with
  | true => { cls := .type "tuple_iterator", data := .fields #[.ref a, .int 0 0] }
  | false => { cls := .type "list_iterator", data := .fields #[.ref a, .int 0 0] }
theorem begins_k (t : Bool) (a : Addr) (its : Array Value) : Begins (.ref a) (itO t a) fun h => SeqS t h a its := by
  cases t
  · exact begins_list a its
  · exact begins_tuple a its
theorem draws_k {prog : Program} {w : World} {A : Around} (t : Bool) (hh : A.handled = none) (it a : Addr) (hne : a ≠ it) (its : Array Value) :
    Draws prog w A it [it, a] its.size (fun i v => its[i]? = some v) (fun i h => ItS t h it a i ∧ SeqS t h a its) := by
  cases t
  · exact Draws.list hh it a hne its
  · exact Draws.tuple hh it a hne its
theorem itS_0 {t : Bool} {h : Heap} {it a : Addr} (e : h.get? it = some (itO t a)) : ItS t h it a 0 := by
  cases t
  · exact ⟨_, e, rfl, rfl⟩
  · exact ⟨_, e, rfl, rfl⟩
theorem ItS.obj {t : Bool} {h : Heap} {it a : Addr} {i : Nat} (x : ItS t h it a i) : ∃ o, h.get? it = some o ∧ ∀ v, o.data ≠ .cell v := by
  cases t
  · obtain ⟨o, e, _, d⟩ := x
    exact ⟨o, e, fun v q => by rw [d] at q; cases q⟩
  · obtain ⟨o, e, _, d⟩ := x
    exact ⟨o, e, fun v q => by rw [d] at q; cases q⟩
theorem ItS.to {t : Bool} {h h' : Heap} {it a : Addr} {i : Nat} (x : ItS t h it a i) (k : ∀ o, h.get? it = some o → h'.get? it = some o) : ItS t h' it a i := by
  cases t
  · exact Heap.IsListIter.at x k
  · exact Heap.IsTupleIter.at x k
theorem SeqS.lt {t : Bool} {h : Heap} {a : Addr} {its : Array Value} (x : SeqS t h a its) : a < h.objs.size := by
  cases t
  · obtain ⟨o, e, _⟩ := x; exact Heap.lt_size e
  · obtain ⟨o, e, _⟩ := x; exact Heap.lt_size e
section
variable {X : Cx} {pins : List (Addr × Obj)} {σ : St} {H : Hp} {s : Shared}
theorem Inv.sqK {t : Bool} {a : Addr} {xs : List V} (I : Inv X pins σ H s) (h : SqK t X.K H a xs) : ∃ its : List Value, Vals xs its ∧ SeqS t s.heap a its.toArray ∧ xs.length ≤ sizeLine := by
  cases t
  · obtain ⟨its, rv, p, z⟩ := I.list h
    exact ⟨its, rv, p.isList, z⟩
  · obtain ⟨its, rv, p, z⟩ := I.tuple h
    exact ⟨its, rv, p, z⟩
theorem Inv.sqK_inj {t : Bool} {a : Addr} {xs ys : List V} (I : Inv X pins σ H s) (h : SqK t X.K H a xs) (h' : SqK t X.K H a ys) : xs = ys := by
  cases t
  · exact I.list_inj h h'
  · exact I.tuple_inj h h'
end
/-- zip of two -/
def ItzK (K : PySem.W.Frag) (st t1 t2 : Bool) (a b : Addr) : It :=
  ⟨fun i H => ∃ (xs ys : List V) (x y : V), SqK t1 K H a xs ∧ SqK t2 K H b ys ∧ xs[i]? = some x ∧ ys[i]? = some y,
    fun i H v H' => ∃ T x y, v = .ref T ∧ H T = none ∧ H' = upd H T (.tup [x, y]) ∧ (∀ xs, SqK t1 K H a xs → xs[i]? = some x) ∧ ∀ ys, SqK t2 K H b ys → ys[i]? = some y,
    fun i H => ∃ xs ys : List V, SqK t1 K H a xs ∧ SqK t2 K H b ys ∧ i = min xs.length ys.length ∧ (st = true → xs.length = ys.length)⟩
theorem go_zipK {prog : Program} {w : World} {A : Around} {E : Value → Shared → Prop} {s : Shared} {st : Bool} {elts : List Expr} {x1} {pos : Pos} {z TI TO T : Addr} {Q : Unit → Shared → Prop} (hz : ZAt st s.heap z TI TO (rawInt (T : Nat)) (.bool false))
    (hQ : ∀ h', ZAt st h' z TI TO .none (.bool false) → Heap.SameBut z s.heap h' → Q () { s with heap := h' }) : wpAny (model prog w) A (letOwnedTupleGo (.Tuple elts x1 pos) (.ref z) (.ref T)) Q E s := by
  unfold letOwnedTupleGo
  refine wpAny_bind (wpAny_load hz ?_)
  show wpAny _ _ (if (["enumerate", "zip", "dict_itemiterator", "dict_reverseitemiterator", "odict_iterator", "itertools.zip_longest", "itertools.pairwise"].contains "zip" && (#[rawInt T, .bool false, .bool st, .ref TI, .ref TO] : Array Value)[0]? == some (rawInt T)) = true then _ else _) Q E s
  rw [if_pos (by simp)]
  refine wpAny_bind (wpAny_rule ?_)
  show wpAny _ _ (setField (.ref z) 0 .none) Q E s
  exact wpAny_setField_rec hz (by simp) fun h' hz' hs' => hQ h' hz' hs'
theorem self_zipK {prog : Program} {w : World} {A : Around} {E : Value → Shared → Prop} {s : Shared} {z : Addr} {Q : Value → Shared → Prop} (hT : s.TypeIs (.ref z) "zip") (h : Q (.ref z) s) : wpAny (model prog w) A (pyIter (.ref z)) Q E s := by
  refine wpAny_pyIter_slot hT F.slot_zip_iter (wpAny_call_entry F.slot_zip_iter hT F.entry_zip_iter (wpAny_pure ?_) (F.args_zip_iter_1 _))
  exact ⟨_, rfl, "zip", _, hT, F.slot_zip_next.lookup, h⟩
theorem turn_zipK {P : Program} {w : World} {K : PySem.W.Frag} {elts : List Expr} {kk : Nat} {tpos : Pos} {st t1 t2 : Bool} {a b z TI TO i1 i2 : Addr} (D : ZipSep2 z TI TO i1 i2 [i1, a] [i2, b]) (na : a ≠ i1) (nb : b ≠ i2) :
    Turn P w K (.Tuple elts kk tpos) (ItzK K st t1 t2 a b) [z, TI, TO, i1, i2] z (fun i h => ZAt st h z TI TO .none (.bool false) ∧ IsTupOf2 h TI (.ref i1) (.ref i2) ∧ (∃ x y, IsTupOf2 h TO x y) ∧ ItS t1 h i1 a i ∧ ItS t2 h i2 b i) where
  mem := by simp
  obj := fun i h st c hc => by
    obtain ⟨hz, hTI, ⟨x, y, hTO⟩, h1, h2⟩ := st
    have e' : c = z ∨ c = TI ∨ c = TO ∨ c = i1 ∨ c = i2 := by simpa using hc
    rcases e' with q | q | q | q | q
    · rw [q]; exact ⟨_, hz, fun v q => nomatch q⟩
    · rw [q]; exact ⟨_, hTI, fun v q => nomatch q⟩
    · rw [q]; exact ⟨_, hTO, fun v q => nomatch q⟩
    · rw [q]; exact h1.obj
    · rw [q]; exact h2.obj
  keep := fun i h h' st k => by
    obtain ⟨hz, hTI, ⟨x, y, hTO⟩, h1, h2⟩ := st
    exact ⟨k z (by simp) _ hz, k TI (by simp) _ hTI, ⟨x, y, k TO (by simp) _ hTO⟩, h1.to fun o q => k i1 (by simp) o q, h2.to fun o q => k i2 (by simp) o q⟩
  item := by
    intro X hP hw hK hc i pins s σ H E I hf st hg
    subst hP hw hK
    obtain ⟨hz, hTI, ⟨x0, y0, hTO⟩, h1, h2⟩ := st
    obtain ⟨xs, ys, x, y, hqx, hqy, hx, hy⟩ := hg
    obtain ⟨its, rv, p, _⟩ := I.sqK hqx
    obtain ⟨its2, rv2, p2, _⟩ := I.sqK hqy
    obtain ⟨u, hu, ru⟩ := rv.get hx
    obtain ⟨u2, hu2, ru2⟩ := rv2.get hy
    have hzl : z < s.heap.objs.size := Heap.lt_size hz
    have hh : X.A.in1.handled = none := I.ok.hd hc
    have hTy : s.TypeIs (.ref z) "zip" := ⟨_, hz, rfl⟩
    have li : i < its.toArray.size := by have := (List.getElem?_eq_some_iff.mp hu).1; simpa using this
    have li2 : i < its2.toArray.size := by have := (List.getElem?_eq_some_iff.mp hu2).1; simpa using this
    unfold pyNext
    refine wpAny_bind (wpAny_attempt (wpAny_callSpecial?_slot (name := Str.ofString "__next__") hTy F.slot_zip_next (wpAny_call_entry F.slot_zip_next hTy F.entry_zip_next
      (zn_free D (draws_k t1 hh i1 a na its.toArray) (draws_k t2 hh i2 b nb its2.toArray) hz hTI hTO ⟨h1, p⟩ ⟨h2, p2⟩ li li2 fun v1 v2 h' tk q1 q2 z' TO' s1' s2' hT hsz hk => wpAny_pure ?_) (F.args_zip_next_1 _))))
    have e1 : v1 = u := by
      have q : its[i]? = some v1 := by simpa using q1
      rw [hu] at q; exact (Option.some.inj q).symm
    have e2 : v2 = u2 := by
      have q : its2[i]? = some v2 := by simpa using q2
      rw [hu2] at q; exact (Option.some.inj q).symm
    subst e1 e2
    refine ⟨_, rfl, go_zipK (s := { s with heap := h', toks := tk }) z' fun h'' z'' sb => ?_⟩
    replace sb : Heap.SameBut z h' h'' := sb
    have hT2 : h''.get? s.heap.objs.size = some { cls := .type "tuple", data := .seq #[v1, v2] } := (sb.2 _ (Nat.ne_of_gt hzl)).trans hT
    have new : ObjOk X.prog X.w (upd H s.heap.objs.size (.tup [x, y])) h'' s.heap.objs.size (.tup [x, y]) :=
      ⟨by show 2 ≤ sizeLine; decide, [v1, v2], .cons ru (.cons ru2 .nil), ⟨_, hT2, rfl, _, rfl⟩⟩
    have I1 : Inv X pins σ (upd H s.heap.objs.size (.tup [x, y])) { s with heap := h'', toks := tk } :=
      I.turnedNew (t' := tk) (ch := [z, TI, TO, i1, i2]) (fun c o hb q => (sb.2 c (fun q' => hb (by simp [q']))).trans (hk c o (fun q' => hb (by simp [q'])) (fun q' => hb (by simp [q'])) (fun q' => hb (by simp [q'])) (fun q' => hb (by simp [q'])) q)) hf (Nat.le_refl _) new
    refine ⟨.ref s.heap.objs.size, _, I1, rfl, ⟨_, x, y, rfl, I.hok.fresh (Nat.le_refl _), rfl, fun l hl => by rw [I.sqK_inj hl hqx]; exact hx, fun l hl => by rw [I.sqK_inj hl hqy]; exact hy⟩, ⟨z'', ?_, ⟨v1, v2, ?_⟩, ?_, ?_⟩, fun c hcm => ?_⟩
    · exact (sb.2 _ D.TIz).trans (hk _ _ D.TIz D.TITO D.TIi1 D.TIi2 hTI)
    · exact (sb.2 _ D.TOz).trans TO'
    · exact s1'.1.to fun o q => (sb.2 _ D.zi1.symm).trans q
    · exact s2'.1.to fun o q => (sb.2 _ D.zi2.symm).trans q
    · have hlt : c < s.heap.objs.size := by
        have e' : c = z ∨ c = TI ∨ c = TO ∨ c = i1 ∨ c = i2 := by simpa using hcm
        rcases e' with q | q | q | q | q
        · rw [q]; exact hzl
        · rw [q]; exact Heap.lt_size hTI
        · rw [q]; exact Heap.lt_size hTO
        · rw [q]; obtain ⟨_, e1, _⟩ := h1.obj; exact Heap.lt_size e1
        · rw [q]; obtain ⟨_, e2, _⟩ := h2.obj; exact Heap.lt_size e2
      rw [upd_ne (Nat.ne_of_lt hlt)]
      exact (hf c hcm).1
  done := by
    intro X hP hw hK hc i pins s σ H E I hf st hg
    subst hP hw hK
    obtain ⟨hz, hTI, ⟨x0, y0, hTO⟩, h1, h2⟩ := st
    obtain ⟨xs, ys, hqx, hqy, hend, hlen⟩ := hg
    obtain ⟨its, rv, p, _⟩ := I.sqK hqx
    obtain ⟨its2, rv2, p2, _⟩ := I.sqK hqy
    have l1 := rv.length
    have l2 := rv2.length
    have hh : X.A.in1.handled = none := I.ok.hd hc
    have z1 : its.toArray.size = xs.length := by simp [l1]
    have z2 : its2.toArray.size = ys.length := by simp [l2]
    exact zk_end (i := i) (K := fun _ => False) (I.ok.hd hc) D (draws_k t1 hh i1 a na its.toArray) (draws_k t2 hh i2 b nb its2.toArray) ⟨hTI, .inl ⟨hz, _, _, hTO⟩⟩ ⟨h1, p⟩ ⟨h2, p2⟩ (by omega) (by omega) (by omega) (fun q => by have := hlen q; omega)
      fun h' tk hk => ⟨rfl, I.turnedL (t' := tk) (ch := [z, TI, TO, i1, i2]) (fun c o hb q => hk c o (fun q' => hb (by simp [q'])) (fun q' => hb (by simp [q'])) (fun q' => hb (by simp [q'])) (fun q' => hb (by simp [q'])) q) hf⟩
  self := fun A i s Q E st h => self_zipK ⟨_, st.1, rfl⟩ h
/-- the keywords of zip -/
def kwsZ (st : Bool) (j : Nat) (p p' : Pos) : List Keyword := if st then [⟨some "strict", .Constant (.bool true) j p, p'⟩] else []
/-- a zip has been made, of what it walks R is told -/
def ZMade (X : Cx) (pins : List (Addr × Obj)) (σ : St) (st : Bool) (R : Bool → Bool → Addr → Addr → List V → List V → Hp → Prop) (v : Value) (s : Shared) : Prop :=
  ∃ (N : Nat) (t1 t2 : Bool) (a b : Addr) (xs ys : List V) (H1 : Hp), v = .ref (N + 4) ∧ Inv X pins σ H1 s ∧ a < N ∧ b < N ∧ s.heap.objs.size = N + 5 ∧ (∀ c, N ≤ c → FpOk X pins H1 c) ∧ SqK t1 X.K H1 a xs ∧ SqK t2 X.K H1 b ys ∧
    ZAt st s.heap (N + 4) (N + 2) (N + 3) .none (.bool false) ∧ IsTupOf2 s.heap (N + 2) (.ref N) (.ref (N + 1)) ∧ IsTupOf2 s.heap (N + 3) .none .none ∧ ItS t1 s.heap N a 0 ∧ ItS t2 s.heap (N + 1) b 0 ∧ R t1 t2 a b xs ys H1
def rZip (K : PySem.W.Frag) (R : Bool → Bool → Addr → Addr → List V → List V → Hp → Prop) : List V → Hp → Prop := fun vs H1 => ∃ t1 t2 a b xs ys, vs = [.ref a, .ref b] ∧ SqK t1 K H1 a xs ∧ SqK t2 K H1 b ys ∧ R t1 t2 a b xs ys H1
theorem zip_made {X : Cx} {e e2 : Expr} {ta : TA} {p pos kp kp' : Pos} {j : Nat} {st : Bool} (hg : Gl X "zip") (hm : X.mg "zip" = none) (ha : PA X [e, e2] ta) (hs : starEach [e, e2] X.env = (false, eval e X.env) :: starEach [e2] X.env) (hpl : (backTo pos (starEach [e2] X.env)).any (·.1) = false)
    {R : Bool → Bool → Addr → Addr → List V → List V → Hp → Prop} {pins : List (Addr × Obj)} {s : Shared} {σ : St} {H : Hp} (I : Inv X pins σ H s) (h : ta σ H (rZip X.K R)) :
    wpAny (model X.prog X.w) X.A (eval (.Call (.Name "zip" p) [e, e2] (kwsZ st j kp kp') pos) X.env) (ZMade X pins σ st R) X.xe s := by
  have tail : ∀ {us s1}, AP X pins σ (rZip X.K R) us s1 → wpAny (model X.prog X.w) X.A (call (.type "zip") us (kwZ st)) (ZMade X pins σ st R) X.xe s1 := by
    rintro us s1 ⟨vs, H1, I1, r1, t1, t2, a, b, xs, ys, rfl, hqx, hqy, q⟩
    cases r1 with
    | cons r rr =>
      cases rr with
      | cons r' rr =>
        cases rr
        cases r
        cases r'
        obtain ⟨its, rv, p1, _⟩ := I1.sqK hqx
        obtain ⟨its2, rv2, p2, _⟩ := I1.sqK hqy
        refine zip_begins st (begins_k t1 a its.toArray) (begins_k t2 b its2.toArray) p1 p2 fun h' hz hTI hTO h1 h2 hsz hk => ?_
        exact ⟨s1.heap.objs.size, t1, t2, a, b, xs, ys, H1, rfl, I1.kept (t' := s1.toks) hk, p1.lt, p2.lt, hsz, fun c hc => I1.fpOk hc (I1.hok.fresh hc), hqx, hqy, hz, hTI, hTO, itS_0 h1, itS_0 h2, q⟩
  have hpl' : (backTo pos (starEach [e, e2] X.env)).any (·.1) = false := by
    rw [hs]
    show (false || (backTo pos (starEach [e2] X.env)).any (·.1)) = false
    rw [hpl]; rfl
  refine wpAny_Call_Name_kw (ld_blt I hg hm PyProof.Rows.boot_zip ?_)
  cases st with
  | false => exact PyProof.Rows.callWith_type1 (thn (ha.run pos pins s σ H _ I h) fun us s1 q => tail q) hs hpl
  | true =>
    show wpAny _ _ (callWith pos (.type "zip") [] (backTo pos (starEach [e, e2] X.env)) [(some "strict", do let u ← eval (.Constant (.bool true) j kp) X.env; standAt pos; pure u)]) _ _ _
    unfold callWith
    have ev : wpAny (model X.prog X.w) X.A (evalArgs (.type "zip") true (backTo pos (starEach [e, e2] X.env)) [(some "strict", do let u ← eval (.Constant (.bool true) j kp) X.env; standAt pos; pure u)])
        (fun z s1 => z.kw = kwZ true ∧ AP X pins σ (rZip X.K R) z.pos s1) X.xe s := by
      rw [hs]
      refine evalArgs_kw rfl ?_
      have r := ha.run pos pins s σ H _ I h
      rw [hs] at r
      refine thn r fun us s1 q => ?_
      exact wpAny_evalAll_cons (wpAny_bind (Constant_bool (wpAny_bind (wpAny_standAt (wpAny_pure (wpAny_evalAll_nil ⟨rfl, q⟩))))))
    refine wpAny_bind (wpAny_holding (wpAny_mono ev (fun z s1 h1 => wpAny_bind (wpAny_standAt ?_)) fun _ _ x => x))
    obtain ⟨vs, kw⟩ := z
    obtain ⟨h0, h1⟩ := h1
    replace h0 : kw = kwZ true := h0
    subst h0
    have hp2 : ([(some ("strict" : Str), (do let u ← eval (.Constant (.bool true) j kp) X.env; standAt pos; pure u : Sem Value))] : List (Option Str × Sem Value)).any (·.1.isNone) = false := rfl
    simp only [hpl', hp2, Bool.or_false]
    refine wpAny_bind (wpAny_pure ?_)
    exact wpAny_bind (wpAny_mono (tail h1) (fun r s2 hr => wpAny_bind (wpAny_holding (wpAny_point (wpAny_pure hr)))) fun _ _ x => x)
end L2

set_option maxHeartbeats 2000000
/-! PsZip4: for over a zip; list(zip(..)). -/
namespace L2
open PySem PySem.Spec PyProof.Rows Ps
theorem pi_zipK {X : Cx} {e e2 : Expr} {ta : TA} {p pos tpos kp kp' : Pos} {j : Nat} {st : Bool} {elts : List Expr} {kk : Nat} (hg : Gl X "zip") (hm : X.mg "zip" = none) (ha : PA X [e, e2] ta) (hs : starEach [e, e2] X.env = (false, eval e X.env) :: starEach [e2] X.env) (hpl : (backTo pos (starEach [e2] X.env)).any (·.1) = false) :
    PI X (.Tuple elts kk tpos) (.Call (.Name "zip" p) [e, e2] (kwsZ st j kp kp') pos) (fun σ H R => ta σ H (rZip X.K fun t1 t2 a b xs ys H1 => R (ItzK X.K st t1 t2 a b) H1)) := by
  refine ⟨fun pins s σ H R I h => thn (zip_made hg hm ha hs hpl I h) fun v s1 q => ?_⟩
  obtain ⟨N, t1, t2, a, b, xs, ys, H1, rfl, I1, la, lb, hsz, hf, hqx, hqy, hz, hTI, hTO, h1, h2, r⟩ := q
  refine self_zipK ⟨_, hz, rfl⟩ ?_
  have S : ZipSep2 (N + 4) (N + 2) (N + 3) N (N + 1) [N, a] [N + 1, b] := zip_sep2 (fp1 := [a]) (fp2 := [b]) (fun c hc => by rw [List.mem_singleton.mp hc]; exact la) (fun c hc => by rw [List.mem_singleton.mp hc]; exact lb)
  refine ⟨N + 4, [N + 4, N + 2, N + 3, N, N + 1], _, _, H1, rfl, I1, turn_zipK S (Nat.ne_of_lt la) (Nat.ne_of_lt (Nat.lt_succ_of_lt lb)), ⟨hz, hTI, ⟨_, _, hTO⟩, h1, h2⟩, fun c hc => hf c ?_, r⟩
  have e' : c = N + 4 ∨ c = N + 2 ∨ c = N + 3 ∨ c = N ∨ c = N + 1 := by simpa using hc
  have : (N : Nat) ≤ c := by rcases e' with q | q | q | q | q <;> (rw [q]; first | exact Nat.le_refl _ | exact Nat.le_add_right _ _)
  exact this
/-- new pairs are laid, one by one -/
def LaidP : Hp → List (V × V) → List Addr → Hp → Prop
  | H, [], [], H' => H' = H
  | H, p :: ps, T :: Ts, H' => H T = none ∧ LaidP (upd H T (.tup [p.1, p.2])) ps Ts H'
  | _, _, _, _ => False
theorem LaidP.snoc : ∀ {ps : List (V × V)} {Ts : List Addr} {H H' : Hp} {p : V × V} {T : Addr}, LaidP H ps Ts H' → H' T = none → LaidP H (ps ++ [p]) (Ts ++ [T]) (upd H' T (.tup [p.1, p.2]))
  | [], [], H, H', p, T, h, n => by cases (show H' = H from h); exact ⟨n, rfl⟩
  | q :: ps, U :: Ts, H, H', p, T, h, n => ⟨h.1, LaidP.snoc h.2 n⟩
  | [], _ :: _, _, _, _, _, h, _ => h.elim
  | _ :: _, [], _, _, _, _, h, _ => h.elim
theorem zip_no_len : typeLookup (.type "zip") "__len__" = pure none := by rw [typeLookup_type, builtinLookup_eq_fast]; kernel_rfl
theorem zip_no_hint : typeLookup (.type "zip") "__length_hint__" = pure none := by rw [typeLookup_type, builtinLookup_eq_fast]; kernel_rfl
theorem SqK.upd {t : Bool} {K : PySem.W.Frag} {H : Hp} {a T : Addr} {xs : List V} {o : HO} (h : SqK t K H a xs) (n : H T = none) : SqK t K (upd H T o) a xs := by
  have rd : ∀ {u}, Rd H a u → Rd (L2.upd H T o) a u := fun {u} r => by
    rcases r with r | ⟨od, r⟩
    · exact .inl (by rw [upd_ne (ne_of_none r n)]; exact r)
    · exact .inr ⟨od, by rw [upd_ne (ne_of_none r n)]; exact r⟩
  cases t
  · exact (show SqL K H a xs from h).imp rd id
  · exact (show SqT K H a xs from h).imp rd id
theorem _root_.Ps.ZOk.over {st : Bool} {z TI TO i1 i2 S : Addr} {K : Addr → Prop} {h h' : Heap} (x : ZOk st z TI TO i1 i2 K h) (zS : z < S) (TS : TO < S) (IS : TI < S) (hK : ∀ T, K T → T ≠ S) (k : ∀ c o, c ≠ S → h.get? c = some o → h'.get? c = some o) : ZOk st z TI TO i1 i2 K h' := by
  obtain ⟨a, b⟩ := x
  refine ⟨k _ _ (Nat.ne_of_lt IS) a, ?_⟩
  rcases b with ⟨b, u, v, c⟩ | ⟨T, f, oT, b, c, d⟩
  · exact .inl ⟨k _ _ (Nat.ne_of_lt zS) b, u, v, k _ _ (Nat.ne_of_lt TS) c⟩
  · exact .inr ⟨T, f, oT, k _ _ (Nat.ne_of_lt zS) b, k _ _ (hK T d) c, d⟩
section
variable {X : Cx} {pins : List (Addr × Obj)} {σ : St}
theorem zip_loop {A : Around} {Rs : Result → Shared → Prop} {st t1 t2 : Bool} {a b z TI TO i1 i2 S : Addr} {xs ys : List V} {res : Value} (hA : A.handled = none) (D : ZipSep2 z TI TO i1 i2 [i1, a] [i2, b]) (na : a ≠ i1) (nb : b ≠ i2) (zS : z < S) (TS : TO < S) (IS : TI < S) (iS : i1 < S) (jS : i2 < S) (aS : a < S) (bS : b < S)
    (hst : st = true → xs.length = ys.length) (H1 : Hp) :
    ∀ (k i : Nat) (s : Shared) (H : Hp) (Ts : List Addr) (c : Nat), min xs.length ys.length - i = k → i ≤ min xs.length ys.length → Inv X pins σ H s → (∀ c ∈ [z, TI, TO, i1, i2, S], FpOk X pins H c) → ZOk st z TI TO i1 i2 (fun T => S < T) s.heap → ItS t1 s.heap i1 a i → ItS t2 s.heap i2 b i →
    SqK t1 X.K H a xs → SqK t2 X.K H b ys → s.heap.get? S = some { cls := .type "list", dict := none, data := .seq (Ts.map Value.ref).toArray c, slots := #[] } → Ts.length = i → LaidP H1 ((xs.zip ys).take i) Ts H →
    (∀ s' H' Ts' c', Inv X pins σ H' s' → FpOk X pins H' S → s'.heap.get? S = some { cls := .type "list", dict := none, data := .seq (Ts'.map Value.ref).toArray c', slots := #[] } → LaidP H1 (xs.zip ys) Ts' H' → Rs (.ok (.ret res)) s') →
    codeAny (model X.prog X.w) A (.builtin "list.extend.loop" ⟨[.ref S, .ref z, res], []⟩) Rs s := by
  intro k
  induction k with
  | zero =>
    intro i s H Ts c hk hi I hf hz h1 h2 hqx hqy hS hl hL hR
    obtain ⟨its, rv, p, lz⟩ := I.sqK hqx
    obtain ⟨its2, rv2, p2, _⟩ := I.sqK hqy
    have l1 := rv.length
    have l2 := rv2.length
    have z1 : its.toArray.size = xs.length := by simp [l1]
    have z2 : its2.toArray.size = ys.length := by simp [l2]
    have D1 := draws_k (prog := X.prog) (w := X.w) (A := A.in1.in1) t1 hA i1 a na its.toArray
    have D2 := draws_k (prog := X.prog) (w := X.w) (A := A.in1.in1) t2 hA i2 b nb its2.toArray
    refine codeAny_builtin F.entry_extend_loop ?_
    rw [Around.under_plainId F.plain_extend_loop _]
    show wpAny _ A.in1 (pyNext (.ref z) >>= _) _ _ s
    refine wpAny_bind (zk_end (i := i) (hh := hA) D D1 D2 hz ⟨h1, p⟩ ⟨h2, p2⟩ (by omega) (by omega) (by omega) (fun q => by have := hst q; omega) fun h' tk hk => ?_)
    have nS : S ≠ z ∧ S ≠ TO ∧ S ≠ i1 ∧ S ≠ i2 := ⟨Nat.ne_of_gt zS, Nat.ne_of_gt TS, Nat.ne_of_gt iS, Nat.ne_of_gt jS⟩
    have e : (xs.zip ys).take i = xs.zip ys := List.take_of_length_le (by simp; omega)
    rw [e] at hL
    exact wpAny_pure (hR _ H Ts c (I.turnedL (t' := tk) (ch := [z, TI, TO, i1, i2, S]) (fun c o hb q => hk c o (fun q' => hb (by simp [q'])) (fun q' => hb (by simp [q'])) (fun q' => hb (by simp [q'])) (fun q' => hb (by simp [q'])) q) hf) (hf S (by simp)) (hk S _ nS.1 nS.2.1 nS.2.2.1 nS.2.2.2 hS) hL)
  | succ k ih =>
    intro i s H Ts c hk hi I hf hz h1 h2 hqx hqy hS hl hL hR
    obtain ⟨its, rv, p, lz⟩ := I.sqK hqx
    obtain ⟨its2, rv2, p2, _⟩ := I.sqK hqy
    have l1 := rv.length
    have l2 := rv2.length
    have z1 : its.toArray.size = xs.length := by simp [l1]
    have z2 : its2.toArray.size = ys.length := by simp [l2]
    have D1 := draws_k (prog := X.prog) (w := X.w) (A := A.in1.in1) t1 hA i1 a na its.toArray
    have D2 := draws_k (prog := X.prog) (w := X.w) (A := A.in1.in1) t2 hA i2 b nb its2.toArray
    have hix : i < xs.length := by omega
    have hiy : i < ys.length := by omega
    obtain ⟨u, hu, ru⟩ := rv.get (List.getElem?_eq_getElem hix)
    obtain ⟨u2, hu2, ru2⟩ := rv2.get (List.getElem?_eq_getElem hiy)
    have hlt : S < s.heap.objs.size := Heap.lt_size hS
    refine codeAny_builtin F.entry_extend_loop ?_
    rw [Around.under_plainId F.plain_extend_loop _]
    show wpAny _ A.in1 (pyNext (.ref z) >>= _) _ _ s
    refine wpAny_bind (zk_item (i := i) D D1 D2 hz (fun T hT => ⟨Nat.ne_of_gt (Nat.lt_trans zS hT), Nat.ne_of_gt (Nat.lt_trans iS hT), Nat.ne_of_gt (Nat.lt_trans jS hT)⟩) hlt ⟨h1, p⟩ ⟨h2, p2⟩ (by omega) (by omega) fun v1 v2 h' tk q1 q2 hz' d1 d2 hT hsz hk' => ?_)
    have e1 : v1 = u := by
      have q : its[i]? = some v1 := by simpa using q1
      rw [hu] at q; exact (Option.some.inj q).symm
    have e2 : v2 = u2 := by
      have q : its2[i]? = some v2 := by simpa using q2
      rw [hu2] at q; exact (Option.some.inj q).symm
    subst e1 e2
    have new : ObjOk X.prog X.w (L2.upd H s.heap.objs.size (.tup [xs[i], ys[i]])) h' s.heap.objs.size (.tup [xs[i], ys[i]]) :=
      ⟨by show 2 ≤ sizeLine; decide, [v1, v2], .cons ru (.cons ru2 .nil), ⟨_, hT, rfl, _, rfl⟩⟩
    have I1 : Inv X pins σ (L2.upd H s.heap.objs.size (.tup [xs[i], ys[i]])) { s with heap := h', toks := tk } :=
      I.turnedNew (t' := tk) (ch := [z, TI, TO, i1, i2, S]) (fun c o hb q => hk' c o (fun q' => hb (by simp [q'])) (fun q' => hb (by simp [q'])) (fun q' => hb (by simp [q'])) (fun q' => hb (by simp [q'])) q) hf (Nat.le_refl _) new
    have nS : S ≠ z ∧ S ≠ TO ∧ S ≠ i1 ∧ S ≠ i2 := ⟨Nat.ne_of_gt zS, Nat.ne_of_gt TS, Nat.ne_of_gt iS, Nat.ne_of_gt jS⟩
    have hS' := hk' S _ nS.1 nS.2.1 nS.2.2.1 nS.2.2.2 hS
    have hf' : ∀ c ∈ [z, TI, TO, i1, i2, S], FpOk X pins (L2.upd H s.heap.objs.size (.tup [xs[i], ys[i]])) c := fun c hc => by
      obtain ⟨f1, f2⟩ := hf c hc
      refine ⟨?_, f2⟩
      have e' : c = z ∨ c = TI ∨ c = TO ∨ c = i1 ∨ c = i2 ∨ c = S := by simpa using hc
      have lt : c < s.heap.objs.size := by
        rcases e' with q | q | q | q | q | q <;> rw [q]
        · exact Nat.lt_trans zS hlt
        · exact Nat.lt_trans IS hlt
        · exact Nat.lt_trans TS hlt
        · exact Nat.lt_trans iS hlt
        · exact Nat.lt_trans jS hlt
        · exact hlt
      rw [upd_ne (Nat.ne_of_lt lt)]
      exact f1
    show wpAny _ A.in1 (updateSeq S (·.push (.ref s.heap.objs.size)) >>= _) _ _ _
    have oth : ∀ c o, c ≠ S → h'.get? c = some o → (h'.update S (Obj.mapSeq (·.push (Value.ref s.heap.objs.size)))).get? c = some o := fun c o hc e => (Heap.get?_update_other _ _ (Ne.symm hc)).trans e
    have eT : ((Ts ++ [s.heap.objs.size]).map Value.ref).toArray = (Ts.map Value.ref).toArray.push (.ref s.heap.objs.size) := by simp
    obtain ⟨c2, hS2⟩ : ∃ c2, (h'.update S (Obj.mapSeq (·.push (Value.ref s.heap.objs.size)))).get? S = some { cls := .type "list", dict := none, data := .seq ((Ts ++ [s.heap.objs.size]).map Value.ref).toArray c2, slots := #[] } := by
      rw [eT]
      exact ⟨_, Heap.get?_update_self (Obj.mapSeq (·.push (Value.ref s.heap.objs.size))) hS' rfl⟩
    have eP : (xs.zip ys).take (i + 1) = (xs.zip ys).take i ++ [(xs[i], ys[i])] := by
      rw [List.take_succ, List.getElem?_eq_getElem (by simp; omega)]
      simp
    refine wpAny_bind (wpAny_updateSeq (s := { s with heap := h', toks := tk }) hS' rfl (wpAny_pure ⟨plainId_quiet F.plain_extend_loop _, ih (i + 1) _ (L2.upd H s.heap.objs.size (.tup [xs[i], ys[i]])) (Ts ++ [s.heap.objs.size]) c2 (by omega) (by omega)
      (I1.turnedL (t' := tk) (ch := [S]) (fun c o hb q => oth c o (fun e => hb (by simp [e])) q) (fun c hc => hf' c (by rw [List.mem_singleton.mp hc]; simp))) hf'
      (hz'.over zS TS IS (fun T hT => Nat.ne_of_gt hT) oth) (d1.1.to fun o e => oth _ o (Nat.ne_of_lt iS) e) (d2.1.to fun o e => oth _ o (Nat.ne_of_lt jS) e) (hqx.upd (I.hok.fresh (Nat.le_refl _))) (hqy.upd (I.hok.fresh (Nat.le_refl _))) hS2 (by simp [hl])
      (by rw [eP]; exact hL.snoc (I.hok.fresh (Nat.le_refl _))) hR⟩) (by simp [hl]; omega) (by simp [hl]; omega))
theorem _root_.L2.LaidP.len : ∀ {ps : List (V × V)} {Ts : List Addr} {H H' : Hp}, LaidP H ps Ts H' → Ts.length = ps.length
  | [], [], H, H', h => rfl
  | q :: ps, U :: Ts, H, H', h => congrArg Nat.succ (LaidP.len h.2)
  | [], _ :: _, _, _, h => h.elim
  | _ :: _, [], _, _, h => h.elim
theorem vals_refs : ∀ Ts : List Addr, Vals (Ts.map V.ref) (Ts.map Value.ref)
  | [] => .nil
  | T :: Ts => .cons rfl (vals_refs Ts)
theorem list_zip {st : Bool} {R : Bool → Bool → Addr → Addr → List V → List V → Hp → Prop} {Q : VK} {v : Value} {s : Shared} (hc : X.calm = true) (M : ZMade X pins σ st R v s)
    (hR : ∀ t1 t2 a b xs ys H1, R t1 t2 a b xs ys H1 → (st = true → xs.length = ys.length) ∧ ∀ Ts H2 S, LaidP H1 (xs.zip ys) Ts H2 → H2 S = none → Q (.ref S) (upd H2 S (.lst (Ts.map V.ref)))) :
    wpAny (model X.prog X.w) X.A (call (.type "list") [v]) (EP X pins σ Q) X.xe s := by
  obtain ⟨N, t1, t2, a, b, xs, ys, H1, rfl, I, la, lb, hsz, hf, hqx, hqy, hz, hTI, hTO, j1, j2, r⟩ := M
  obtain ⟨hlen, hQ⟩ := hR _ _ _ _ _ _ _ r
  have hh : X.A.handled = none := I.ok.hd hc
  obtain ⟨_, _, _, lz⟩ := I.sqK hqx
  have S2 : ZipSep2 (N + 4) (N + 2) (N + 3) N (N + 1) [N, a] [N + 1, b] := zip_sep2 (fp1 := [a]) (fp2 := [b]) (fun c hc => by rw [List.mem_singleton.mp hc]; exact la) (fun c hc => by rw [List.mem_singleton.mp hc]; exact lb)
  have nS : ∀ c, c < N + 5 → c ≠ s.heap.objs.size := fun c hc => Nat.ne_of_lt (by rw [hsz]; exact hc)
  refine callType_codes (Q₁ := fun obj s₁ => obj = .ref s.heap.objs.size ∧ s₁ = { s with heap := s.heap.push { cls := .type "list", data := .seq #[] } }) F.called_list (F.typeCall_list_1 _) F.entry_list_init (code_list_new _ ⟨rfl, rfl⟩) fun obj s₁ h₁ => ?_
  obtain ⟨rfl, rfl⟩ := h₁
  have hS : (s.heap.push { cls := .type "list", data := .seq #[] }).get? s.heap.objs.size = some { cls := .type "list", data := .seq #[] } := Heap.get?_push_size _ rfl
  refine ⟨⟨_, hS, rfl⟩, F.args_list_init_2 _ _, ?_⟩
  show wpAny _ _ (do let old ← Builtin.List.listItems (.ref s.heap.objs.size); Builtin.List.listUpdate (.ref s.heap.objs.size) (fun _ => #[]); letGo old.toList.reverse; Builtin.List.listExtendWith (.ref s.heap.objs.size) (.ref (N + 4)) .none) _ _ _
  refine wpAny_bind ?_
  unfold Builtin.List.listItems
  refine wpAny_bind (wpAny_seqItems hS rfl (wpAny_pure ?_))
  show wpAny _ _ (updateSeq s.heap.objs.size (fun _ => #[]) >>= fun _ => letGo (#[] : Array Value).toList.reverse >>= fun _ => Builtin.List.listExtendWith (.ref s.heap.objs.size) (.ref (N + 4)) .none) _ _ _
  refine wpAny_bind (wpAny_updateSeq hS rfl ?_)
  have hS2 := Heap.get?_update_self (Obj.mapSeq (fun _ => (#[] : Array Value))) hS rfl
  refine wpAny_bind (wpAny_letGo ?_)
  generalize hh2 : (s.heap.push { cls := .type "list", data := .seq #[] }).update s.heap.objs.size (Obj.mapSeq (fun _ => (#[] : Array Value))) = h2 at hS2
  have k2 : ∀ c o, s.heap.get? c = some o → h2.get? c = some o := fun c o e => by
    rw [← hh2]
    exact (Heap.get?_update_other _ _ (Nat.ne_of_gt (Heap.lt_size e))).trans (Heap.get?_push_of_some _ e)
  have hT2 : ({ s with heap := h2 } : Shared).TypeIs (.ref (N + 4)) "zip" := ⟨_, k2 _ _ hz, rfl⟩
  unfold Builtin.List.listExtendWith
  refine wpAny_bind (wpAny_typeOf hT2 ?_)
  have e1 : Builtin.List.listSameRef (.ref s.heap.objs.size) (.ref (N + 4)) = false := by
    have : s.heap.objs.size ≠ N + 4 := by rw [hsz]; omega
    simp [Builtin.List.listSameRef, this]
  have e2 : (Value.type "zip" == Value.type "list") = false := by decide
  have e3 : (Value.type "zip" == Value.type "tuple") = false := by decide
  simp only [e1, e2, e3, Bool.or_false, Bool.false_eq_true, if_false]
  refine wpAny_bind (self_zipK hT2 ?_)
  refine wpAny_bind (wpAny_holding ?_)
  unfold Builtin.List.listLengthHint
  refine wpAny_bind (wpAny_specialOf hT2 zip_no_len ?_)
  show wpAny _ _ (specialOf (Value.ref (N + 4)) (Str.ofString "__length_hint__") >>= _) _ _ _
  refine wpAny_bind (wpAny_specialOf hT2 zip_no_hint ?_)
  refine wpAny_pure ?_
  show wpAny _ _ (rule "list.extend.makes-room" >>= fun _ => Builtin.List.listTouch (.ref s.heap.objs.size) >>= fun _ => again (.builtin "list.extend.loop" ⟨[.ref s.heap.objs.size, .ref (N + 4), .none], []⟩)) _ _ _
  refine wpAny_bind (wpAny_rule (wpAny_bind ?_))
  show wpAny _ _ (updateSeq s.heap.objs.size (·.push .none) >>= fun _ => updateSeq s.heap.objs.size (·.pop)) _ _ _
  refine wpAny_bind (wpAny_updateSeq (s := { s with heap := h2 }) hS2 rfl ?_)
  have hS3 := Heap.get?_update_self (Obj.mapSeq (·.push Value.none)) hS2 rfl
  refine wpAny_updateSeq (hz := by seq_fits) hS3 rfl ?_
  have hS4 := Heap.get?_update_self (Obj.mapSeq (·.pop)) hS3 rfl
  generalize hh4 : (h2.update s.heap.objs.size (Obj.mapSeq (·.push Value.none))).update s.heap.objs.size (Obj.mapSeq (·.pop)) = h4 at hS4
  have k4 : ∀ c o, s.heap.get? c = some o → h4.get? c = some o := fun c o e => by
    rw [← hh4]
    have n := Nat.ne_of_gt (Heap.lt_size e)
    exact (Heap.get?_update_other _ _ n).trans ((Heap.get?_update_other _ _ n).trans (k2 c o e))
  have ob : ∀ c o, s.heap.get? c = some o → h4.get? c = some o := k4
  have lt5 : ∀ {c : Nat}, c < N + 5 → c < s.heap.objs.size := fun h => by rw [hsz]; exact h
  refine wpAny_pure ⟨plainId_quiet F.plain_extend_loop _, zip_loop (A := X.A.in1) (X := X) (pins := pins) (σ := σ) (S := s.heap.objs.size) (xs := xs) (ys := ys) hh S2 (Nat.ne_of_lt la) (Nat.ne_of_lt (Nat.lt_succ_of_lt lb)) (lt5 (by omega)) (lt5 (by omega)) (lt5 (by omega)) (lt5 (by omega)) (lt5 (by omega)) (lt5 (Nat.lt_of_lt_of_le la (by omega))) (lt5 (Nat.lt_of_lt_of_le lb (by omega))) hlen H1
    _ 0 _ H1 [] _ rfl (Nat.zero_le _) (I.kept (t' := s.toks) k4) (fun c hc => ?_) ⟨k4 _ _ hTI, .inl ⟨k4 _ _ hz, _, _, k4 _ _ hTO⟩⟩ (j1.to fun o e => k4 _ o e) (j2.to fun o e => k4 _ o e) hqx hqy hS4 rfl rfl fun s' H' Ts c' I' fS hS' hL => ?_⟩
  · have e' : c = N + 4 ∨ c = N + 2 ∨ c = N + 3 ∨ c = N ∨ c = N + 1 ∨ c = s.heap.objs.size := by simpa using hc
    have : (N : Nat) ≤ c := by rcases e' with q | q | q | q | q | q <;> (rw [q]; first | exact Nat.le_refl _ | exact Nat.le_add_right _ _ | (rw [hsz]; exact Nat.le_add_right _ _))
    exact hf c this
  · have lT : Ts.length = (xs.zip ys).length := hL.len
    have new : ObjOk X.prog X.w (upd H' s.heap.objs.size (.lst (Ts.map V.ref))) s'.heap s.heap.objs.size (.lst (Ts.map V.ref)) :=
      ⟨by rw [List.length_map, lT]; simp; omega, Ts.map Value.ref, _, vals_refs Ts, hS'⟩
    refine ⟨rfl, .ref s.heap.objs.size, _, I'.adopt ?_ fS.1 fS.2.1 (fun x c e => fS.2.2.2.2.1 x c e) (fun p hp => fS.2.2.2.2.2 p hp) new, rfl, hQ Ts H' _ hL fS.1⟩
    exact Heap.get?_none_of_le I.sz
/-- list(zip(a, b)) -/
theorem pe_listZip {e e2 : Expr} {ta : TA} {p p' pos pos' kp kp' : Pos} {j : Nat} {st : Bool} (hc : X.calm = true) (hl : Gl X "list") (hml : X.mg "list" = none) (hg : Gl X "zip") (hm : X.mg "zip" = none) (ha : PA X [e, e2] ta) (hs : starEach [e, e2] X.env = (false, eval e X.env) :: starEach [e2] X.env)
    (hpl : (backTo pos (starEach [e2] X.env)).any (·.1) = false) (hs' : starEach [.Call (.Name "zip" p) [e, e2] (kwsZ st j kp kp') pos] X.env = (false, eval (.Call (.Name "zip" p) [e, e2] (kwsZ st j kp kp') pos) X.env) :: starEach [] X.env) :
    PE X (.Call (.Name "list" p') [.Call (.Name "zip" p) [e, e2] (kwsZ st j kp kp') pos] [] pos') (fun σ H Q => ta σ H (rZip X.K fun t1 t2 a b xs ys H1 => (st = true → xs.length = ys.length) ∧ ∀ Ts H2 S, LaidP H1 (xs.zip ys) Ts H2 → H2 S = none → Q (.ref S) (upd H2 S (.lst (Ts.map V.ref))))) := by
  refine ⟨fun pins s σ H Q I h => ?_⟩
  refine Call_ (ld_blt I hl hml PyProof.Rows.boot_list (PyProof.Rows.callWith_type1 (spliced_more (thn (zip_made hg hm ha hs hpl I h) fun v s1 M => spliced_none ?_) hs') hs' (by rfl)))
  exact list_zip hc M fun _ _ _ _ _ _ _ r => r
end
end L2

set_option maxHeartbeats 2000000
/-! PsExc2: raise, try, isinstance of exceptions, in the small interpreter. -/
namespace Ps
open PySem L2
def plainN' (x : Str) : Bool := !(x == ("__debug__" : Str)) && !(x == ("__name__" : Str))
/-- an exception's class, as isinstance wants it -/
structure ExcK (K : PySem.W.Frag) (C : Addr) : Prop where
  cl : (PySem.W.clsIn K C).isSome = true
  hg : PySem.W.findIn K (.ref C) "__getattribute__" = some (some (.builtin "BaseException.__getattribute__"))
  hk : PySem.W.findIn K (.ref C) "__getattr__" = some none
  hs : PySem.W.subIn K (.ref C) (.type "BaseException") = some true
  ha : PySem.W.findIn K (.ref C) "__class__" = some (some (.builtin "object.__class__"))
  hn : PySem.W.specialIn K (.builtin "object.__class__") "__get__" = some (some (.builtin "getset_descriptor.__get__"))
  ht : PySem.W.takesIn K (.builtin "object.__class__") = some true
  hm : PySem.W.mroIn K C (.type "object") = some true
  ty : PySem.W.typeIn K (.ref C) = some (.type "type")
  kp : PySem.W.keepIn K (.ref C) = true
def excKB (K : PySem.W.Frag) (C : Addr) : Bool := (PySem.W.clsIn K C).isSome && (decide (PySem.W.findIn K (.ref C) "__getattribute__" = some (some (.builtin "BaseException.__getattribute__"))) && (decide (PySem.W.findIn K (.ref C) "__getattr__" = some none) && (decide (PySem.W.subIn K (.ref C) (.type "BaseException") = some true)
  && (decide (PySem.W.findIn K (.ref C) "__class__" = some (some (.builtin "object.__class__"))) && (decide (PySem.W.specialIn K (.builtin "object.__class__") "__get__" = some (some (.builtin "getset_descriptor.__get__"))) && (decide (PySem.W.takesIn K (.builtin "object.__class__") = some true) && (decide (PySem.W.mroIn K C (.type "object") = some true)
  && (decide (PySem.W.typeIn K (.ref C) = some (.type "type")) && PySem.W.keepIn K (.ref C)))))))))
theorem excKB_ok {K : PySem.W.Frag} {C : Addr} (h : excKB K C = true) : ExcK K C := by
  simp only [excKB, Bool.and_eq_true, decide_eq_true_eq] at h
  obtain ⟨h1, h2, h3, h4, h5, h6, h7, h8, h9, h10⟩ := h
  exact ⟨h1, h2, h3, h4, h5, h6, h7, h8, h9, h10⟩
/-- what the class named x, and the names of tab, are to each other -/
def IsaOk (K : PySem.W.Frag) (mg : Str → Option Value) (x : Str) (tab : List (Str × Bool)) : Prop := ∃ u : Value, (mg x = some u ∨ (mg x = none ∧ bootBuiltins x = some u)) ∧ ((∃ C, u = .ref C) ∨ ∃ t, u = .type t) ∧
  ∀ n b, tab.lookup n = some b → ∃ C, mg n = some (.ref C) ∧ ExcK K C ∧ PySem.W.kitOne K (.ref C) u = some b ∧ PySem.W.exmOne K (.ref C) u = some b
/-- an exception class without own __init__ -/
def RaiOk (K : PySem.W.Frag) (mg : Str → Option Value) (x : Str) : Prop := ∃ (C : Addr) (B newId initId : String) (bmB : List Value), mg x = some (.ref C) ∧ ExcBaseFacts B newId initId bmB ∧ PySem.W.excIn K C bmB newId = true ∧ ExcK K C
/-- isinstance(e, c) -/
def rIsEx (K : PySem.W.Frag) : List V → Hp → VK → Prop := fun xs H Q => ∃ (a C : Addr) (d : Option Addr) (c : V) (cv : Value) (b : Bool), xs = [.ref a, c] ∧ H a = some (exv a (.ref C) d) ∧ (d = none ∨ ∃ dd fs, d = some dd ∧ H dd = some (.xd fs)) ∧ ExcK K C ∧ (∀ u, RelV c u → u = cv) ∧ PySem.W.kitOne K (.ref C) cv = some b ∧ Q (.bl b) H
section
variable {X : Cx} {W : WX} {cl : Cl}
theorem exv_at {P : Program} {w : World} {H : Hp} {h : Heap} {a : Addr} {c : Value} {d : Option Addr} (hok : HOk P w H h) (e : H a = some (exv a c d)) : ∃ (oe : Obj) (vs : Array Value), h.get? a = some oe ∧ Zc c d oe ∧ oe.data = .fields vs := by
  have x : ObjOk P w H h a (.ext fun h => ∃ (oe : Obj) (vs : Array Value), h.get? a = some oe ∧ Zc c d oe ∧ oe.data = .fields vs) := hok a _ e
  exact x.1
theorem inst_of {pins : List (Addr × Obj)} {σ : L2.St} {H : Hp} {s : Shared} {a C : Addr} {d : Option Addr} (I : Inv X pins σ H s) (e : H a = some (exv a (.ref C) d)) (hd : d = none ∨ ∃ dd fs, d = some dd ∧ H dd = some (.xd fs)) : ∃ oe od, PySem.W.InstAt s.heap a oe C od := by
  obtain ⟨oe, vs, h1, hz, h2⟩ := exv_at I.hok e
  have nc : PySem.W.notCls oe = true := by unfold PySem.W.notCls; rw [h2] <;> rfl
  rcases hd with rfl | ⟨dd, fs, rfl, ed⟩
  · exact ⟨oe, none, h1, hz.1, nc, by rw [hz.2] <;> trivial⟩
  · have hx : ObjOk X.prog X.w H s.heap dd (.xd fs) := I.hok dd _ ed
    obtain ⟨mA, hns, hr⟩ := hx
    obtain ⟨od, ho, hl⟩ := lookIn_ns hns
    exact ⟨oe, some od, h1, hz.1, nc, by rw [hz.2]; exact ho⟩
theorem call_isEx : CallR X (.builtin "isinstance") (rIsEx X.K) := by
  intro pins s σ H xs us Q I r h
  obtain ⟨a, C, d, c, cv, b, rfl, ea, hd, T, hcv, e, q⟩ := h
  obtain ⟨u1, u2, rfl, r1, r2⟩ := vals2 r
  cases (show u1 = Value.ref a from r1)
  have e2 := hcv _ r2
  subst e2
  obtain ⟨oe, od, J⟩ := inst_of I ea hd
  exact PySem.W.kia_one (PySem.W.kitx_exc (ox := oe) (od := od) T.cl T.hg T.hk T.hs T.ha T.hn T.ht T.hm) I.kIn J e (fun z => nomatch z) fun tk => ⟨.bl b, H, I.tok tk, rfl, q⟩
theorem ExD.dict {m : MP} {H : Hp} {d : Option Addr} {ks : List Str} {us : List V} (h : ExD m H d ks us) : d = none ∨ ∃ dd fs, d = some dd ∧ H dd = some (.xd fs) := by
  rcases h with h | ⟨dd, h1, _, h3, _⟩
  · exact .inl h.2.2
  · exact .inr ⟨dd, _, h1, h3⟩
theorem pe_cls {x : Str} {u : Value} {p : Pos} (hg : Gl X x) (hp : plainN' x = true) (h : X.mg x = some u ∨ (X.mg x = none ∧ bootBuiltins x = some u)) (hu : (∃ C, u = .ref C) ∨ ∃ t, u = .type t) : ∃ v : V, PE X (.Name x p) (tC v) ∧ ∀ u', RelV v u' → u' = u := by
  have hp' : (x == ("__debug__" : Str)) = false ∧ x ≠ "__name__" := by simpa [plainN'] using hp
  rcases h with h | ⟨h1, h2⟩
  · rcases hu with ⟨C, rfl⟩ | ⟨t, rfl⟩
    · exact ⟨.ref C, pe_glob hg h rfl hp'.1, fun u' r => r⟩
    · exact ⟨.ty t, pe_glob hg h rfl hp'.1, fun u' r => r⟩
  · rcases hu with ⟨C, rfl⟩ | ⟨t, rfl⟩
    · exact ⟨.ref C, pe_bltn (v := .ref C) hg h1 h2 rfl hp'.2 hp'.1, fun u' r => r⟩
    · exact ⟨.ty t, pe_bltn (v := .ty t) hg h1 h2 rfl hp'.2 hp'.1, fun u' r => r⟩
theorem s_isExc {a : Expr} {a' : E} {x : Str} {tab : List (Str × Bool)} {pn p pos : Pos} (hi : Gl X "isinstance") (hm : X.mg "isinstance" = none) (hg : Gl X x) (hp : plainN' x = true) (I : IsaOk X.K X.mg x tab) (ha : SE X W cl a a') (hst : starEach [a, .Name x p] X.env = (false, eval a X.env) :: starEach [.Name x p] X.env) :
    SE X W cl (.Call (.Name "isinstance" pn) [a, .Name x p] [] pos) (.isExc a' tab) := by
  obtain ⟨u, h1, h2, h3⟩ := I
  obtain ⟨v, pv, hv⟩ := pe_cls (p := p) hg hp h1 h2
  refine (pe_callB call_isEx hi hm (by decide +kernel) (pa_cons ha (pa_cons pv pa_nil) hst) (by decide) (by decide) hst (by rfl)).weak fun σ H Q ⟨sl, m, cs, hs, hc, s⟩ => ?_
  simp only [ev] at s
  refine first hs hc s fun y cs1 m1 H1 w1 e1 hs1 c1 r1 s1 => ?_
  obtain ⟨b, e, s2⟩ := sat_of s1
  cases y with
  | exc n ks vs =>
    cases r1 with
    | val r1 =>
      cases r1 with
      | exc ea na gn hd rv =>
        obtain ⟨C, g1, g2, g3, g4⟩ := h3 n b e
        have g1' : (Cx.wd X).mg n = some (.ref C) := g1
        rw [g1'] at gn
        cases gn
        exact ⟨_, _, _, v, u, b, rfl, ea, hd.dict, g2, hv, g3, sat_at c1 s2 (.val (.bl b))⟩
  | _ => cases e
/-! ### raise -/
theorem s_raise {x : Str} {t : Str} {j : Nat} {p p2 p3 pos : Pos} (hc : X.calm = true) (tk : Takes X W) (hg : Gl X x) (hdb : (x == ("__debug__" : Str)) = false) (T : RaiOk X.K X.mg x) :
    SS X W cl (.Raise (some (.Call (.Name x p) [.Constant (.str t) j p2] [] p3)) none pos) (.rais x [] [] []) := by
  obtain ⟨C, B, ni, ii, bm, g1, F, q, k⟩ := T
  refine (ps_raise hc tk (pmk_own F q g1 k.kp (raises_own k.hs k.ty) hg hdb)).weak fun D σ H ⟨sl, m, cs, hs, hc, s⟩ => ?_
  exact s (.ref C) none m H (Ext.refl _ _) hc ⟨x, [], [], C, rfl, g1, rfl, .inl ⟨rfl, rfl, rfl⟩⟩ σ
/-! ### try -/
/-- a statement whose exception leaves the slots as they were -/
def TStm1 (w : Wd) (W : WX) (f : Slots → Cells → R Out) : TS := fun D σ H => ∃ sl m cs, SloR w m H σ sl ∧ CsR w m H cs ∧ Sat w (fun c d H' => W c d σ H') (f sl cs) m H (QO w D)
abbrev SS1 (X : Cx) (W : WX) (cl : Cl) (s : Stmt) (s' : S) : Prop := PS X s (TStm1 (Cx.wd X) W (ex cl s'))
theorem in1 {w : Wd} {e : E} {σ : L2.St} {H : Hp} {sl : Slots} {m : MP} {cs : Cells} {f : Val → Cells → R Out} {P : Out → Cells → MP → Hp → Prop} {Q1 : VK} (hs : SloR w m H σ sl) (hc : CsR w m H cs)
    (s : Sat w (fun c d H' => W c d σ H') ((ev cl e sl cs).bind f) m H P)
    (k : ∀ x cs1 m1 H1 u, Ext m H m1 H1 → SloR w m1 H1 σ sl → CsR w m1 H1 cs1 → AR w m1 H1 x u → Sat w (fun c d H' => W c d σ H') (f x cs1) m1 H1 P → Q1 u H1) : TSem w W cl e σ H Q1 :=
  ⟨sl, m, cs, hs, hc, (Sat.bind s).mono (fun x cs1 m1 H1 e1 c1 s1 u r => k x cs1 m1 H1 u e1 (hs.ext e1) c1 r s1) fun _ _ _ z => z⟩
theorem s1_set {i : Nat} {x : Str} {e : Expr} {e' : E} {pos pos' : Pos} (hN : X.N.Nodup) (hi : X.N[i]? = some x) (hx : Loc X.env.scope x) (hf : X.fn x = true ∨ X.env.scope.names.lookup x = some .local) (he : SE X W cl e e') (hs : swapsWith e (some (.Name x pos')) pos.line X.env = pure false) :
    SS1 X W cl (.Assign [.Name x pos'] e pos) (.asg (.nm i) e') := by
  refine (ps_set hN hi hx he hs hf).weak fun D σ H ⟨sl, m, cs, hs, hc, s⟩ => ?_
  simp only [ex] at s
  refine in1 hs hc s fun y cs1 m1 H1 u e1 hs1 c1 r1 s1 => ?_
  simp only [asgT, R.of_some, R.bind_ok] at s1
  exact s1 m1 H1 (Ext.refl _ _) c1 _ (hs1.set r1)
theorem s1_expr {e : Expr} {e' : E} {pos : Pos} (he : SE X W cl e e') (hs : swapsWith e none pos.line X.env = pure false) : SS1 X W cl (.Expr e pos) (.expr e') := by
  refine (ps_expr he hs).weak fun D σ H ⟨sl, m, cs, hs, hc, s⟩ => ?_
  simp only [ex] at s
  exact in1 hs hc s fun x cs1 m1 H1 u e1 hs1 c1 r1 s1 => s1 m1 H1 (Ext.refl _ _) c1 σ hs1
theorem SloR.unset {w : Wd} {m : MP} {H : Hp} {σ : L2.St} {sl : Slots} (h : SloR w m H σ sl) (i : Nat) : SloR w m H (σ.set i none) (sl.set i none) :=
  ⟨by simpa using h.len, fun j x q => by
    by_cases e : i = j
    · subst e
      by_cases z : i < sl.length
      · rw [List.getElem?_set_self z] at q; cases q
      · rw [List.getElem?_eq_none (by simpa using z)] at q; cases q
    · rw [List.getElem?_set_ne e] at q ⊢
      exact h.at_ j x q⟩
theorem s_tryA {x n : Str} {i : Nat} {st su : Stmt} {st' su' : S} {tab : List (Str × Bool)} {np pos pos' : Pos} (hex : X.ex = []) (hs : X.stack = X.env :: X.outer) (hf : X.env.frame = some X.env.locals) (hN : X.N.Nodup) (hi : X.N[i]? = some n) (hln : X.env.scope.names.lookup n = some .local) (hg : Gl X x) (hp : plainN' x = true) (tk : Takes X W)
    (I : IsaOk X.K X.mg x tab) (hb : ∀ (W' : WX) (pn : List (Addr × Obj)) (xe : Value → Shared → Prop), Takes (X.tr pn xe) W' → PassesOwn (model X.prog X.w) X.A X.env xe → SS1 (X.tr pn xe) W' cl st st')
    (hsu : ∀ (a : Addr) (pn : List (Addr × Obj)), SS (X.suite a pn) W0 cl su su') :
    SS X W cl (.Try [st] [.ExceptHandler (some (.Name x np)) (some n) [su] pos'] [] [] pos) (.tryA st' tab (some i) su') := by
  obtain ⟨u, h1, h2, h3⟩ := I
  have hp' : (x == ("__debug__" : Str)) = false ∧ x ≠ "__name__" := by simpa [plainN'] using hp
  have hc : Names X x u := ⟨hg, hp'.1, h1.imp id fun h => ⟨h.1, h.2, hp'.2⟩⟩
  refine (ps_try_val (tb := fun W' => TStm1 (Cx.wd X) W' (ex cl st')) (ts := TStm (Cx.wd X) W0 (ex cl su')) hex hs hf hN hi hln hc tk (fun W' pn xe t po => pss_one (hb W' pn xe t po)) fun a pn => pss_one (hsu a pn)).weak fun D σ H ⟨sl, m, cs, hs, hc, s⟩ => ⟨sl, m, cs, hs, hc, ?_⟩
  simp only [ex] at s
  cases q : ex cl st' sl cs with
  | stuck => rw [q] at s; exact s.elim
  | ok o cs1 => rw [q] at s; exact s
  | ex y cs1 =>
    rw [q] at s
    simp only at s
    rintro c d m' H' e' c' ⟨nn, ks, vs, C, rfl, g1, rfl, hd⟩
    have hd' : ∃ us, ExD m' H' d ks us ∧ VRs (Cx.wd X) m' H' vs us := by
      rcases hd with ⟨rfl, rfl, rfl⟩ | ⟨dd, us, k1, k2, k3, k4, k5⟩
      · exact ⟨[], .inl ⟨rfl, rfl, rfl⟩, .nil⟩
      · exact ⟨us, .inr ⟨dd, k1, k2, k3, k4⟩, k5⟩
    have l : excIs (.exc nn ks vs) tab = tab.lookup nn := rfl
    cases qb : tab.lookup nn with
    | none => rw [l, qb] at s; exact s.elim
    | some b =>
      rw [l, qb] at s
      obtain ⟨C', z1, z2, z3, z4⟩ := h3 nn b qb
      have z1' : (Cx.wd X).mg nn = some (.ref C') := z1
      rw [z1'] at g1
      cases g1
      refine ⟨b, z4, fun eb a na => ?_, fun eb => ?_⟩
      · subst eb
        simp only at s
        obtain ⟨us, hd1, hd2⟩ := hd'
        have al := Ext.alloc (o := exv a (.ref C) d) na (c'.free na)
        cases q2 : ex cl su' (sl.set i (some (.exc nn ks vs))) cs1 with
        | stuck => rw [q2] at s; exact s.elim
        | ex y cs' => rw [q2] at s; exact s.elim
        | ok o cs2 =>
          rw [q2] at s
          refine ⟨sl.set i (some (.exc nn ks vs)), m', cs1, ((hs.ext e').ext al).set (.val (.exc upd_same (c'.free na) z1 (hd1.mon al.mon) (hd2.ext al))), c'.alloc na, ?_⟩
          rw [q2]
          intro m2 H2 e2 c2
          have s2 := s m2 H2 ((e'.trans al).trans e2) c2
          cases o with
          | nx sl2 => exact fun σ2 hs2 => s2 _ (hs2.unset i)
          | rt v => exact fun u2 r2 => s2 u2 r2
          | bk sl2 => exact fun σ2 hs2 => s2 _ (hs2.unset i)
          | ct sl2 => exact fun σ2 hs2 => s2 _ (hs2.unset i)
      · subst eb
        simp only at s
        exact s (.ref C) d m' H' e' c' ⟨nn, ks, vs, C, rfl, z1, rfl, hd⟩ σ
end
end Ps

set_option maxHeartbeats 2000000
/-! PsKw: calls with keywords. -/
namespace Ps
open PySem L2
section
variable {X : Cx} {W : WX} {cl : Cl}
theorem evs_append : ∀ (a b : List E) (sl : Slots) (cs : Cells), evs cl (a ++ b) sl cs = (evs cl a sl cs).bind fun vs cs => (evs cl b sl cs).bind fun ws cs => .ok (vs ++ ws) cs
  | [], b, sl, cs => by
    simp only [List.nil_append, evs, R.bind_ok]
    cases evs cl b sl cs <;> rfl
  | e :: a, b, sl, cs => by
    simp only [List.cons_append, evs]
    cases ev cl e sl cs with
    | stuck => rfl
    | ex x c => rfl
    | ok v c =>
      simp only [R.bind_ok]
      rw [evs_append a b sl c]
      cases evs cl a sl c with
      | stuck => rfl
      | ex x c => rfl
      | ok vs c2 =>
        simp only [R.bind_ok]
        cases evs cl b sl c2 <;> rfl
theorem evs_len : ∀ {es : List E} {sl : Slots} {cs cs' : Cells} {vs : List Val}, evs cl es sl cs = .ok vs cs' → vs.length = es.length
  | [], sl, cs, cs', vs, q => by simp only [evs] at q; cases q; rfl
  | x :: xs, sl, cs, cs', vs, q => by
    simp only [evs] at q
    cases q1 : ev cl x sl cs with
    | stuck => rw [q1] at q; cases q
    | ex y c => rw [q1] at q; cases q
    | ok v c =>
      rw [q1] at q
      simp only [R.bind_ok] at q
      cases q2 : evs cl xs sl c with
      | stuck => rw [q2] at q; cases q
      | ex y c => rw [q2] at q; cases q
      | ok ws c2 => rw [q2] at q; cases q; exact congrArg Nat.succ (evs_len q2)
abbrev SK (X : Cx) (W : WX) (cl : Cl) (kws : List Keyword) (es' : List E) : Prop := PK X kws (TArg (Cx.wd X) W cl es')
theorem k_nil : SK X W cl [] [] := ⟨fun pos pins s σ H Q I ⟨sl, m, cs, hs, hc, st⟩ => pk_nil.run pos pins s σ H Q I (st m H (Ext.refl _ _) hc [] .nil)⟩
theorem k_cons {nm : Option Str} {e : Expr} {kp : Pos} {kws : List Keyword} {e' : E} {es' : List E} (he : SE X W cl e e') (hk : SK X W cl kws es') : SK X W cl (⟨nm, e, kp⟩ :: kws) (e' :: es') := by
  refine ⟨fun pos pins s σ H Q I ⟨sl, m, cs, hs, hc, st⟩ => (pk_cons he hk).run pos pins s σ H Q I ?_⟩
  simp only [evs] at st
  refine ⟨sl, m, cs, hs, hc, (Sat.bind st).mono (fun x cs1 m1 H1 e1 c1 s1 u r => ?_) fun _ _ _ z => z⟩
  refine ⟨sl, m1, cs1, hs.ext e1, c1, (Sat.bind s1).mono (fun vs cs2 m2 H2 e2 c2 s2 us rs => ?_) fun _ _ _ z => z⟩
  exact s2 m2 H2 (Ext.refl _ _) c2 (u :: us) (.cons (r.ext e2) rs)
theorem kw_all {pos : Pos} {env : Env} : ∀ {kws : List Keyword}, kws.all (·.arg.isSome) = true → (backToKw pos (keywordEach kws env)).all (·.1.isSome) = true ∧ (backToKw pos (keywordEach kws env)).any (·.1.isNone) = false ∧ (backToKw pos (keywordEach kws env)).filterMap (·.1) = kws.filterMap (·.arg)
  | [], _ => ⟨rfl, rfl, rfl⟩
  | ⟨nm, v, p⟩ :: kws, h => by
    rw [List.all_cons, Bool.and_eq_true] at h
    obtain ⟨h1, h2, h3⟩ := kw_all (pos := pos) (env := env) h.2
    cases nm with
    | none => cases h.1
    | some k =>
      have e : backToKw pos (keywordEach (⟨some k, v, p⟩ :: kws) env) = (some k, do let u ← eval v env; standAt pos; pure u) :: backToKw pos (keywordEach kws env) := rfl
      rw [e]
      refine ⟨?_, ?_, ?_⟩
      · rw [List.all_cons, h1]; rfl
      · rw [List.any_cons, h2]; rfl
      · rw [List.filterMap_cons, List.filterMap_cons, h3]
theorem ARs.app {w : Wd} {m : MP} {H : Hp} : ∀ {xs xs' : List Val} {us us' : List V}, ARs w m H xs us → ARs w m H xs' us' → ARs w m H (xs ++ xs') (us ++ us')
  | _, _, _, _, .nil, h => h
  | _, _, _, _, .cons a t, h => .cons a (ARs.app t h)
theorem s_callK {f : Str} {e : Expr} {es : List Expr} {kws : List Keyword} {es' ks' : List E} {sh : List (Nat ⊕ Val)} {p pos : Pos} (tk : Takes X W) (C : Callee X cl f (e :: es).length (kws.filterMap (·.arg)) sh) (hg : Gl X f) (ha : SA X W cl (e :: es) es') (hk : SK X W cl kws ks') (hle : es'.length = (e :: es).length) (hlk : ks'.length = kws.length)
    (hkw : kws.all (·.arg.isSome) = true) (hdb : (f == ("__debug__" : Str)) = false) (he : starEach (e :: es) X.env = (false, eval e X.env) :: starEach es X.env) (hpl : (backTo pos (starEach (e :: es) X.env)).any (·.1) = false) :
    SE X W cl (.Call (.Name f p) (e :: es) kws pos) (.call f (es' ++ ks') sh) := by
  obtain ⟨a, fd, ps, k, g, gV, hm, hkp, hgd, hr, hb, F, hsh⟩ := C.ex
  obtain ⟨w1, w2, w3⟩ := kw_all (pos := pos) (env := X.env) hkw
  have lk : (kws.filterMap (·.arg)).length = kws.length := by
    clear C hk hlk hb hsh w1 w2 w3
    induction kws with
    | nil => rfl
    | cons q qs ih =>
      rw [List.all_cons, Bool.and_eq_true] at hkw
      obtain ⟨v, hv⟩ := Option.isSome_iff_exists.mp hkw.1
      rw [List.filterMap_cons, hv, List.length_cons, List.length_cons, ih hkw.2]
  refine ⟨fun pins s σ H Q I ⟨sl, m, cs, hs, hc, st⟩ => ?_⟩
  simp only [ev] at st
  rw [evs_append] at st
  refine wpAny_Call_Name_kw (ld_glob I hg hm ?_ hdb)
  have st1 : Sat (Cx.wd X) (fun c d H' => W c d σ H') ((evs cl es' sl cs).bind fun vs cs => if vs.length = (e :: es).length then (evs cl ks' sl cs).bind fun ws cs => if ws.length = kws.length then (R.of (shape sh (vs ++ ws)) cs).bind fun vs cs => cl f vs cs else .stuck else .stuck) m H (QE (Cx.wd X) Q) := by
    cases q : evs cl es' sl cs with
    | stuck => rw [q] at st; exact st.elim
    | ex x c => rw [q] at st; exact st
    | ok vs c =>
      rw [q] at st
      simp only [R.bind_ok] at st ⊢
      rw [if_pos ((evs_len q).trans hle)]
      cases q2 : evs cl ks' sl c with
      | stuck => rw [q2] at st; exact st.elim
      | ex x c => rw [q2] at st; exact st
      | ok ws c2 =>
        rw [q2] at st
        simp only [R.bind_ok] at st ⊢
        rw [if_pos ((evs_len q2).trans hlk)]
        exact st
  refine PySem.W.callWith_KW (h₀ := X.base) I.ok.mod.kin hkp w1 (thn (ha.run pos pins s σ H (fun us H1 => us.length = (e :: es).length ∧ ∃ vs m1 cs1, ARs (Cx.wd X) m1 H1 vs us ∧ SloR (Cx.wd X) m1 H1 σ sl ∧ CsR (Cx.wd X) m1 H1 cs1 ∧ Sat (Cx.wd X) (fun c d H' => W c d σ H') ((evs cl ks' sl cs1).bind fun ws cs => if ws.length = kws.length then (R.of (shape sh (vs ++ ws)) cs).bind fun vs cs => cl f vs cs else .stuck) m1 H1 (QE (Cx.wd X) Q)) I ?_) fun us s1 ⟨vs, H1, I1, r, q⟩ => ?_) (by rw [hpl, w2]; rfl) he
  · exact firsts hs hc st1 fun vs cs1 m1 H1 us e1 hs1 c1 r1 s1 => by
      split at s1
      · exact ⟨by rw [← r1.length]; assumption, vs, m1, cs1, r1, hs1, c1, s1⟩
      · exact s1.elim
  · obtain ⟨l, vs1, m1, cs1, rs, hs1, c1, t1⟩ := q
    refine thn (hk.run pos pins s1 σ H1 (fun zs H2 => zs.length = kws.length ∧ ∃ vs2 m2 cs2, ARs (Cx.wd X) m2 H2 (vs1 ++ vs2) (vs ++ zs) ∧ ARs (Cx.wd X) m2 H2 vs1 vs ∧ ARs (Cx.wd X) m2 H2 vs2 zs ∧ CsR (Cx.wd X) m2 H2 cs2 ∧ Sat (Cx.wd X) (fun c d H' => W c d σ H') ((R.of (shape sh (vs1 ++ vs2)) cs2).bind fun vs cs => cl f vs cs) m2 H2 (QE (Cx.wd X) Q)) I1 ?_) fun ws s2 ⟨zs, H2, I2, rz, q2⟩ => ⟨I2.kIn, ?_⟩
    · exact firsts hs1 c1 t1 fun ws cs2 m2 H2 zs e2 hs2 c2 r2 s2 => by
        split at s2
        · exact ⟨by rw [← r2.length]; assumption, ws, m2, cs2, (rs.ext e2).app r2, rs.ext e2, r2, c2, s2⟩
        · exact s2.elim
    · obtain ⟨l2, vs2, m2, cs2, ra, ra1, ra2, c2, s2⟩ := q2
      rw [w3]
      cases qs : shape sh (vs1 ++ vs2) with
      | none => rw [qs] at s2; exact s2.elim
      | some vs3 =>
        rw [qs] at s2
        simp only [R.of_some, R.bind_ok] at s2
        obtain ⟨g1, g2⟩ := hsh m2 H2 vs1 vs vs2 zs vs3 ra1 ra2 l (l2.trans lk.symm) qs
        exact run_callee F hgd hr hb tk I2 r rz l (l2.trans lk.symm) ⟨g2, vs3, m2, cs2, g1, c2, s2⟩
end
end Ps

set_option maxHeartbeats 2000000
/-! PsZip5: zip in the small interpreter. -/
namespace Ps
open PySem L2
/-- zip of a kind -/
def zK (st : Bool) : ItK := if st then .zips else .zip
theorem items_zK (st : Bool) (vs : List Val) (cs : Cells) : itemsOf (zK st) vs cs = zipV st vs cs := by cases st <;> rfl
section
variable {w : Wd}
/-- a tuple, or a list -/
def kd : Val → Bool
  | .tup _ => true
  | _ => false
theorem seq_at {m : MP} {H : Hp} {cs : Cells} {v : Val} {u : V} {xs : List Val} (c : CsR w m H cs) (e : seqOf cs v = some xs) (r : AR w m H v u) : ∃ (a : Addr) (ys : List V), u = .ref a ∧ SqK (kd v) w.K H a ys ∧ VRs w m H xs ys := by
  have lst : ∀ {v : Val}, seqOf cs v = listOf cs v → kd v = false → seqOf cs v = some xs → AR w m H v u → ∃ (a : Addr) (ys : List V), u = .ref a ∧ SqK (kd v) w.K H a ys ∧ VRs w m H xs ys := fun {v} q k e r => by
    rw [q] at e
    obtain ⟨a, ys, eb, h1, h2⟩ := listOf_at c e r
    exact ⟨a, ys, eb, by rw [k]; exact h1, h2⟩
  cases v with
  | tup zs =>
    cases e
    obtain ⟨a, ys, rfl, h1, h2⟩ := r.tup
    exact ⟨a, ys, rfl, h1.sq, h2⟩
  | _ => exact lst rfl rfl e r
theorem zip_two {st : Bool} {vs : List Val} {cs : Cells} {zs : List Val} (e : zipV st vs cs = some zs) : ∃ v v' xs ys, vs = [v, v'] ∧ seqOf cs v = some xs ∧ seqOf cs v' = some ys ∧ (st = true → xs.length = ys.length) ∧ zs = (xs.zip ys).map fun p => .tup [p.1, p.2] := by
  unfold zipV at e
  split at e
  · rename_i a b
    split at e
    · rename_i xs ys e1 e2
      split at e
      · cases e
      · rename_i n
        exact ⟨a, b, xs, ys, rfl, e1, e2, fun q => Classical.byContradiction fun z => n ⟨q, z⟩, (Option.some.inj e).symm⟩
    · cases e
  · cases e
theorem itok_zipK {st : Bool} {a b : Addr} {v v' : Val} {zs : List Val} : ItOk w (zK st) [v, v'] [.ref a, .ref b] zs (ItzK w.K st (kd v) (kd v') a b) := by
  refine ⟨fun H => ∃ us vs, SqK (kd v) w.K H a us ∧ SqK (kd v') w.K H b vs ∧ min us.length vs.length = zs.length ∧ (st = true → us.length = vs.length), fun i H u H' => ∃ T x0 y0, u = .ref T ∧ H T = none ∧ H' = upd H T (.tup [x0, y0]) ∧ (∀ xs, SqK (kd v) w.K H a xs → xs[i]? = some x0) ∧ ∀ ys, SqK (kd v') w.K H b ys → ys[i]? = some y0, ⟨?_, ?_, ?_⟩, ?_, ?_⟩
  · rintro i H hi ⟨us, vs, h1, h2, h3, _⟩
    have hi' : i < us.length ∧ i < vs.length := by omega
    exact ⟨us, vs, us[i]'hi'.1, vs[i]'hi'.2, h1, h2, by simp [hi'.1], by simp [hi'.2]⟩
  · rintro H ⟨us, vs, h1, h2, h3, h4⟩
    exact ⟨us, vs, h1, h2, h3.symm, h4⟩
  · rintro i H x H' hi _ y
    exact y
  · intro m H cs c r e
    rw [items_zK] at e
    obtain ⟨_, _, xs, ys, e0, e1, e2, hl, rfl⟩ := zip_two e
    cases e0
    cases r with
    | cons r t =>
      cases t with
      | cons r' t =>
        obtain ⟨_, us, eb, h1, h2⟩ := seq_at c e1 r
        cases eb
        obtain ⟨_, us', eb, h1', h2'⟩ := seq_at c e2 r'
        cases eb
        exact ⟨us, us', h1, h1', by rw [← h2.length, ← h2'.length]; simp, fun q => by rw [← h2.length, ← h2'.length]; exact hl q⟩
  · rintro i m H cs u H' x c r e ex ⟨T, x0, y0, rfl, nT, rfl, y, y'⟩
    rw [items_zK] at e
    obtain ⟨_, _, xs, ys, e0, e1, e2, hl, rfl⟩ := zip_two e
    cases e0
    cases r with
    | cons r t =>
      cases t with
      | cons r' t =>
        obtain ⟨_, us, eb, h1, h2⟩ := seq_at c e1 r
        cases eb
        obtain ⟨_, us', eb, h1', h2'⟩ := seq_at c e2 r'
        cases eb
        rw [List.getElem?_map] at ex
        cases q : (xs.zip ys)[i]? with
        | none => rw [q] at ex; cases ex
        | some p =>
          rw [q] at ex
          have ex' : Val.tup [p.1, p.2] = x := by simpa using ex
          subst ex'
          rw [List.getElem?_zip_eq_some] at q
          obtain ⟨u1, e3, r3⟩ := h2.get q.1
          obtain ⟨u2, e4, r4⟩ := h2'.get q.2
          have e5 := y us h1
          rw [e3] at e5; cases e5
          have e6 := y' us' h1'
          rw [e4] at e6; cases e6
          exact alloc_tup c nT (.cons r3 (.cons r4 .nil))
end
section
variable {X : Cx} {W : WX} {cl : Cl} {tg : Expr}
theorem i_zip {e e2 : Expr} {es' : List E} {p pos tpos kp kp' : Pos} {j : Nat} {st : Bool} {elts : List Expr} {kk : Nat} (hg : Gl X "zip") (hm : X.mg "zip" = none) (ha : SA X W cl [e, e2] es') (hs : starEach [e, e2] X.env = (false, eval e X.env) :: starEach [e2] X.env) (hpl : (backTo pos (starEach [e2] X.env)).any (·.1) = false) : SI X W cl (.Tuple elts kk tpos) (.Call (.Name "zip" p) [e, e2] (kwsZ st j kp kp') pos) (zK st) es' := by
  refine (pi_zipK hg hm ha hs hpl).weak fun σ H R ⟨sl, m, cs, hs, hc, s⟩ => ⟨sl, m, cs, hs, hc, s.mono (fun vs cs1 m1 H1 e1 c1 k us rs => ?_) fun _ _ _ z => z⟩
  obtain ⟨xs, e, kj⟩ := k us rs
  clear k
  rw [items_zK] at e
  obtain ⟨v, v', zs, zs', rfl, e1, e2, hl, rfl⟩ := zip_two e
  cases rs with
  | cons r t =>
    cases t with
    | cons r' t =>
      cases t
      obtain ⟨a, ys, rfl, h1, h2⟩ := seq_at c1 e1 r
      obtain ⟨b, ys', rfl, h1', h2'⟩ := seq_at c1 e2 r'
      exact ⟨_, _, a, b, ys, ys', rfl, h1, h1', kj _ itok_zipK⟩
/-- what the pairs laid are -/
theorem laid_rel {w : Wd} {m : MP} {cs : Cells} : ∀ {ps : List (V × V)} {Ts : List Addr} {H H2 : Hp} {zs : List (Val × Val)}, LaidP H ps Ts H2 → CsR w m H cs → VRs w m H (zs.map (·.1)) (ps.map (·.1)) → VRs w m H (zs.map (·.2)) (ps.map (·.2)) → Ext m H m H2 ∧ CsR w m H2 cs ∧ VRs w m H2 (zs.map fun p => .tup [p.1, p.2]) (Ts.map V.ref)
  | [], [], H, H2, [], h, c, _, _ => by
    cases (show H2 = H from h)
    exact ⟨Ext.refl _ _, c, .nil⟩
  | p :: ps, T :: Ts, H, H2, z :: zs, h, c, r1, r2 => by
    cases r1 with
    | cons r1 t1 =>
      cases r2 with
      | cons r2 t2 =>
        obtain ⟨e1, c1, a1⟩ := alloc_tup (xs := [z.1, z.2]) c h.1 (.cons r1 (.cons r2 .nil))
        obtain ⟨e2, c2, a2⟩ := laid_rel (zs := zs) h.2 c1 (t1.ext e1) (t2.ext e1)
        cases a1 with
        | val a1 => exact ⟨e1.trans e2, c2, .cons (a1.ext e2) a2⟩
  | [], _ :: _, _, _, _, h, _, _, _ => h.elim
  | _ :: _, [], _, _, _, h, _, _, _ => h.elim
  | [], [], _, _, _ :: _, _, _, r, _ => nomatch r
  | _ :: _, _ :: _, _, _, [], _, _, r, _ => nomatch r
theorem vrs_zip {w : Wd} {m : MP} {H : Hp} : ∀ {xs ys : List Val} {us vs : List V}, VRs w m H xs us → VRs w m H ys vs → VRs w m H ((xs.zip ys).map (·.1)) ((us.zip vs).map (·.1)) ∧ VRs w m H ((xs.zip ys).map (·.2)) ((us.zip vs).map (·.2))
  | [], _, [], _, .nil, _ => ⟨.nil, .nil⟩
  | x :: xs, [], u :: us, [], _, .nil => ⟨.nil, .nil⟩
  | x :: xs, y :: ys, u :: us, v :: vs, .cons r rs, .cons t ts => ⟨.cons r (vrs_zip rs ts).1, .cons t (vrs_zip rs ts).2⟩
theorem s_zipl {e e2 : Expr} {es' : List E} {p p' pos pos' kp kp' : Pos} {j : Nat} {st : Bool} (hc : X.calm = true) (hl : Gl X "list") (hml : X.mg "list" = none) (hg : Gl X "zip") (hm : X.mg "zip" = none) (ha : SA X W cl [e, e2] es') (hs : starEach [e, e2] X.env = (false, eval e X.env) :: starEach [e2] X.env)
    (hpl : (backTo pos (starEach [e2] X.env)).any (·.1) = false) (hs' : starEach [.Call (.Name "zip" p) [e, e2] (kwsZ st j kp kp') pos] X.env = (false, eval (.Call (.Name "zip" p) [e, e2] (kwsZ st j kp kp') pos) X.env) :: starEach [] X.env) :
    SE X W cl (.Call (.Name "list" p') [.Call (.Name "zip" p) [e, e2] (kwsZ st j kp kp') pos] [] pos') (.zipl st es') := by
  refine (pe_listZip hc hl hml hg hm ha hs hpl hs').weak fun σ H Q ⟨sl, m, cs, hs, hc, s⟩ => ?_
  simp only [ev] at s
  refine ⟨sl, m, cs, hs, hc, (Sat.bind s).mono (fun vs cs1 m1 H1 e1 c1 k us rs => ?_) fun _ _ _ z => z⟩
  obtain ⟨zs, e, s2⟩ := sat_of k
  obtain ⟨v, v', xs, xs', rfl, q1, q2, hl, rfl⟩ := zip_two e
  cases rs with
  | cons r t =>
    cases t with
    | cons r' t =>
      cases t
      obtain ⟨a, ys, rfl, h1, h2⟩ := seq_at c1 q1 r
      obtain ⟨b, ys', rfl, h1', h2'⟩ := seq_at c1 q2 r'
      refine ⟨_, _, a, b, ys, ys', rfl, h1, h1', fun q => by rw [← h2.length, ← h2'.length]; exact hl q, fun Ts H2 S hL hS => ?_⟩
      obtain ⟨r1, r2⟩ := vrs_zip h2 h2'
      obtain ⟨e2, c2, r3⟩ := laid_rel hL c1 r1 r2
      have al := Ext.alloc (o := .lst (Ts.map V.ref)) hS (c2.free hS)
      exact s2 m1 _ (e2.trans al) (c2.alloc hS) _ (.val (.lst upd_same (c2.free hS) (r3.ext al)))
end
end Ps

set_option maxHeartbeats 2000000
/-! PsMk1: an exception of an own class is made by its own __init__, with keywords too; its fields are stored. -/
namespace Ps
open PySem
section
open Builtin Builtin.ObjectAttr PySem.HandSPX
variable {M : Model} {prog : Program} {w : World} {A : Around} {E : Value → Shared → Prop} {R : Result → Shared → Prop} {hp : Heap} {gs : Array GenState} {dr : Drawn} {tc : Nat} {oz : OsState}
variable {nm qn : Str} {C nsA : Addr} {bs bm bmB : List Value} {hD : Bool} {sn : List Str} {sub : List Value} {ab : Bool} {col : Option Bool} {dd : Option Addr} {k0 k1 k2 k3 k5 : Option Value} {B nId iId : String}
abbrev Eco (nm qn : Str) (C nsA : Addr) (bs bm : List Value) (hD : Bool) (sn : List Str) (sub : List Value) (ab : Bool) (col : Option Bool) (dd : Option Addr) (k0 k1 k2 k3 k5 : Option Value) (nId : String) : Obj := excClassObj nm qn C nsA bs bm hD sn sub ab col dd k0 k1 k2 k3 k5 nId
theorem mk_checkNew (F : ExcBaseFacts B nId iId bmB) (hT : ∀ X : String, bm.contains (.type X) = bmB.contains (.type X)) {us : List Value} {kw : List (Str × Value)} {Q : Unit → Shared → Prop}
    (hC : hp.get? C = some (Eco nm qn C nsA bs bm hD sn sub ab col dd k0 k1 k2 k3 k5 nId)) (hq : Q () ⟨hp, gs, dr, tc, oz⟩) : wpAny M A (checkBuiltinCall nId ⟨.ref C :: us, kw⟩) Q E ⟨hp, gs, dr, tc, oz⟩ := by
  have has : (Value.ref C :: bm).contains (.type B) = true := by rw [List.contains_cons, hT, F.hasB, Bool.or_true]
  have star := F.noStar
  simp only [checkBuiltinCall, F.newKind, F.newSplit, F.newRow]
  repeat (first | refine wpAny_loadPart_at hC ?_ | (refine wpAny_isSubtype_exc hC ?_; rw [has]) | refine wpAny_staticBase_exc hC ?_ | refine wpAny_madeBy_exc hC ?_ | simp only [bne_self_eq_false, Bool.false_eq_true, if_false] | wp_step)
  exact hq
theorem mk_new (F : ExcBaseFacts B nId iId bmB) (hT : ∀ X : String, bm.contains (.type X) = bmB.contains (.type X)) {us : List Value} {kw : List (Str × Value)}
    (hC : hp.get? C = some (Eco nm qn C nsA bs bm hD sn sub ab col dd k0 k1 k2 k3 k5 nId))
    (hq : R (.ok (.ret (.ref (hp.objs.size + 1)))) ⟨(hp.push (PySem.W.kdv_tup us)).push (excO C hp.objs.size), gs, dr, tc, oz⟩) (hl : us.length ≤ sizeLine) :
    codeAny (model prog w) A (.builtin nId ⟨.ref C :: us, kw⟩) R ⟨hp, gs, dr, tc, oz⟩ := by
  have en := F.ends
  have hasB : (Value.ref C :: bm).contains (.type B) = true := by rw [List.contains_cons, hT, F.hasB, Bool.or_true]
  have hasA : (Value.ref C :: bm).contains (.type "AttributeError") = false := by rw [List.contains_cons, hT, F.noAttr]; rfl
  have hasN : (Value.ref C :: bm).contains (.type "NameError") = false := by rw [List.contains_cons, hT, F.noName]; rfl
  refine codeAny_builtinAt F.entry ?_
  unfold Builtin.«BaseException.__new__»
  refine wpAt_bind ?_
  show wpAt _ _ _ (stack >>= _) _ _ _
  refine wpAt_bind (wpAt_stack fun p below => wpAt_of_wpAny ?_)
  wp_walk
  refine wpAt_of_wpAny ?_
  rw [F.owner]
  repeat (first | with_reducible refine wpAny_madeHere_exc F.canon hC ?_ | with_reducible refine wpAny_loadPart_at hC ?_ | (with_reducible refine wpAny_isSubtype_exc hC ?_; first | rw [hasB] | rw [hasA] | rw [hasN]) | wp_step)
  show R _ _
  rw [Heap.size_push]
  exact hq
theorem mk_checkType {us : List Value} {kw : List (Str × Value)} {Q : Unit → Shared → Prop} (hC : hp.get? C = some (Eco nm qn C nsA bs bm hD sn sub ab col dd k0 k1 k2 k3 k5 nId))
    (hq : Q () ⟨hp, gs, dr, tc, oz⟩) : wpAny M A (checkBuiltinCall "type.__call__" ⟨.ref C :: us, kw⟩) Q E ⟨hp, gs, dr, tc, oz⟩ := by
  have f3 := tc_sub
  have tyC : (⟨hp, gs, dr, tc, oz⟩ : Shared).TypeIs (.ref C) "type" := ⟨_, hC, rfl⟩
  simp only [checkBuiltinCall, tc_kind, tc_split]
  repeat (any_goals (first | assumption | with_reducible refine wpAny_loadPart_at hC ?_ | with_reducible refine wpAny_onRaise ?_ | with_reducible refine wpAny_map ?_ | wp_step))
theorem mk_typeCall (F : ExcBaseFacts B nId iId bmB) (hT : ∀ X : String, bm.contains (.type X) = bmB.contains (.type X)) {us : List Value} {kw : List (Str × Value)} {fI : Addr} {Q : Fin → Shared → Prop}
    (hC : hp.get? C = some (Eco nm qn C nsA bs bm hD sn sub ab col dd k0 k1 k2 k3 k5 nId))
    (hi : W.Looks (model prog w) hp (typeLookup (.ref C) "__init__") (some (.ref fI))) (hb : ∀ x, W.Looks (model prog w) hp (bindSpecial (.ref fI) x) (.ref fI, [x])) (hl : us.length ≤ sizeLine)
    (hq : codeAny (model prog w) A (.call (.ref fI) ⟨.ref (hp.objs.size + 1) :: us, kw⟩)
      (fun r s' => match r with | .ok (.ret v) => v = .none ∧ Q (.done (.ret (.ref (hp.objs.size + 1)))) s' | .ok _ => False | .error e => E e s')
      ⟨(hp.push (W.kdv_tup us)).push (excO C hp.objs.size), gs, dr, tc, oz⟩) :
    wpAny (model prog w) A (Builtin.«type.__call__» ⟨.ref C :: us, kw⟩) Q E ⟨hp, gs, dr, tc, oz⟩ := by
  repeat (first | with_reducible refine wpAny_loadPart_at hC ?_ | with_reducible refine wpAny_madeBy_exc hC ?_ | wp_step)
  refine codeAny_call_builtin_code (Code.quiet_builtin _ F.quiet) (mk_checkNew F hT hC ?_)
  refine mk_new F hT hC ?_ hl
  show wpAny _ _ _ _ _ _
  have kp : ∀ b o, hp.get? b = some o → ((hp.push (W.kdv_tup us)).push (excO C hp.objs.size)).get? b = some o := fun b o e => Heap.get?_push_of_some _ (Heap.get?_push_of_some _ e)
  have hC1 := kp _ _ hC
  have at1 : ((hp.push (W.kdv_tup us)).push (excO C hp.objs.size)).get? (hp.objs.size + 1) = some (excO C hp.objs.size) := by heap_get
  have hasC : (Value.ref C :: bm).contains (.ref C) = true := by simp
  have i1 := hi.keeps kp
  have b1 := (hb (.ref (hp.objs.size + 1))).keeps kp
  unfold isInstance
  repeat (first | with_reducible refine wpAny_loadPart_at at1 ?_ | (with_reducible refine wpAny_isSubtype_exc hC1 ?_; rw [hasC]) | wp_step)
  show wpAny _ _ (typeLookup (.ref C) _) _ _ _
  refine i1.at ?_
  refine wpAny_holding (wpAny_bind (b1.at ?_))
  refine wpAny_bind (wpAny_call (codeAny_mono hq fun r s' z => ?_))
  rcases r with e | (v | _ | _ | _) <;> first | exact z | exact z.elim | skip
  obtain ⟨rfl, z⟩ := z
  first
    | exact wpAny_pure (wpAny_pure z)
    | (wp_walk; exact z)
theorem mk_call (F : ExcBaseFacts B nId iId bmB) (hT : ∀ X : String, bm.contains (.type X) = bmB.contains (.type X)) {us : List Value} {kw : List (Str × Value)} {fI : Addr}
    (hC : hp.get? C = some (Eco nm qn C nsA bs bm hD sn sub ab col dd k0 k1 k2 k3 k5 nId))
    (hi : W.Looks (model prog w) hp (typeLookup (.ref C) "__init__") (some (.ref fI))) (hb : ∀ x, W.Looks (model prog w) hp (bindSpecial (.ref fI) x) (.ref fI, [x])) (hl : us.length ≤ sizeLine)
    (hq : codeAny (model prog w) (A.under (.builtin "type.__call__" ⟨.ref C :: us, kw⟩)) (.call (.ref fI) ⟨.ref (hp.objs.size + 1) :: us, kw⟩) (W.InitBack (hp.objs.size + 1) R)
      ⟨(hp.push (W.kdv_tup us)).push (excO C hp.objs.size), gs, dr, tc, oz⟩) :
    codeAny (model prog w) A (.call (.ref C) ⟨us, kw⟩) R ⟨hp, gs, dr, tc, oz⟩ := by
  have f1 := tc_lookup
  have f2 := tc_bind (.ref C)
  have tyC : (⟨hp, gs, dr, tc, oz⟩ : Shared).TypeIs (.ref C) "type" := ⟨_, hC, rfl⟩
  refine codeAny_of_tree ?_
  show wpAny _ _ (callAny (.ref C) _) _ _ _
  repeat (any_goals (first | assumption | with_reducible refine wpAny_loadPart_at hC ?_ | wp_step))
  refine ⟨rfl, ?_⟩
  refine codeAny_call_builtin_at (Code.quiet_builtin _ (by decide +kernel)) entry_typeCall (mk_checkType hC (mk_typeCall F hT hC hi hb hl ?_))
  refine codeAny_mono hq fun r s' z => ?_
  rcases r with e | (v | _ | _ | _) <;> exact z
end
end Ps

set_option maxHeartbeats 2000000
/-! PsMk2: __init__ of an own exception class: the base's __init__, then the fields. -/
namespace Ps
open PySem L2
/-- an own exception class with fields, over a built-in one -/
structure OexG (K : PySem.W.Frag) (C : Addr) (B nId iId : String) (bmB : List Value) : Prop where
  bf : ExcBaseFacts B nId iId bmB
  sf : StoreFacts B bmB "object.__setattr__" "object"
  ini : PySem.W.excInitIn K C bmB nId = true
  over : PySem.W.excOver K C bmB = true
  hd : PySem.W.hasDictIn K C = true
  sa : PySem.W.findIn K (.ref C) "__setattr__" = some (some (.builtin "object.__setattr__"))
  k : ExcK K C
section
open PySem.W Builtin Builtin.ObjectAttr
variable {prog : Program} {w : World} {A : Around} {R : Result → Shared → Prop} {hp : Heap} {gs : Array GenState} {dr : Drawn} {tc : Nat} {oz : OsState} {K : Frag} {x C t1 dx : Addr} {B nId iId : String} {bmB : List Value} {name : Str} {tk : Tok} {v : Value}
/-- the first field -/
theorem put_first (T : OexG K C B nId iId bmB) (X : K.In hp) (hx : hp.get? x = some (excObj C t1 none .none)) (ht : takerIn K C name = some none)
    (hq : ∀ h' tk' d, (∀ b o, b ≠ x → hp.get? b = some o → h'.get? b = some o) → hp.objs.size ≤ d → d ≠ x → h'.get? x = some (excObj C t1 (some d) .none) →
      h'.Ns1 d (fun y => if y = name then some v else none) → R (.ok (.ret .none)) ⟨h', gs, dr, tk', oz⟩) :
    codeAny (model prog w) A (.call (.builtin "object.__setattr__") ⟨[.ref x, .str name tk, v], []⟩) R ⟨hp, gs, dr, tc, oz⟩ := by
  refine osa_openX (od := none) (s := ⟨hp, gs, dr, tc, oz⟩) T.sf X ⟨hx, rfl, rfl, trivial⟩ T.over ht fun b => ?_
  obtain ⟨cd, hc, hd'⟩ := any_some T.hd
  have hxs : x ≠ hp.objs.size := Nat.ne_of_lt (Heap.lt_size hx)
  refine wpAny_bind (wpAny_pure (wpAny_bind (instanceDict_exc (s := ⟨hp, gs, dr, tc, oz⟩) hx (looks_clsIn X hc) hd' ?_)))
  show wpAny _ _ (storeInDict hp.objs.size (.str name tk) name v) _ _ _
  refine HandSPX.store_in_new ?_ fun h' tk' hn' hs => ?_
  · exact ⟨_, #[], _, (Heap.get?_update_ne _ _ _ _ hxs.symm).trans (Heap.get?_push_at rfl rfl), rfl, fun e he => absurd he (by simp), fun _ => rfl⟩
  · have hx1 : (hp.push (dictOf [] 0)).get? x = some (excObj C t1 none .none) := Heap.get?_push_of_some _ hx
    refine hq h' tk' hp.objs.size (fun b o hb ho => ?_) (Nat.le_refl _) hxs.symm ?_ hn'
    · exact (hs.2 b (Nat.ne_of_lt (Heap.lt_size ho))).trans ((Heap.get?_update_ne _ _ _ _ hb).trans (Heap.get?_push_of_some _ ho))
    · exact (hs.2 x hxs).trans (Heap.get?_update_self _ hx1 rfl)
/-- a further one -/
theorem put_more {m0 : Str → Option Value} {nl : List Str} (T : OexG K C B nId iId bmB) (X : K.In hp) (hx : hp.get? x = some (excObj C t1 (some dx) .none)) (hns : hp.Ns1 dx m0) (hw : Within m0 nl) (hz : nl.length ≤ 1000) (ht : takerIn K C name = some none)
    (hq : ∀ h' tk', (∀ b o, b ≠ dx → hp.get? b = some o → h'.get? b = some o) → h'.Ns1 dx (fun y => if y = name then some v else m0 y) → R (.ok (.ret .none)) ⟨h', gs, dr, tk', oz⟩) :
    codeAny (model prog w) A (.call (.builtin "object.__setattr__") ⟨[.ref x, .str name tk, v], []⟩) R ⟨hp, gs, dr, tc, oz⟩ := by
  obtain ⟨oD, esD, epD, hoD, hdD, _⟩ := hns.count hw
  refine osa_openX (od := some oD) (s := ⟨hp, gs, dr, tc, oz⟩) T.sf X ⟨hx, rfl, rfl, hoD⟩ T.over ht fun b => ?_
  obtain ⟨cd, hc, hd'⟩ := any_some T.hd
  refine wpAny_bind (wpAny_pure (wpAny_bind (wpAny_bind (wpAny_loadPart hx (wpAny_bind ((looks_clsIn X hc).here ?_))))))
  rw [hd']
  refine wpAny_pure (a := some dx) ?_
  exact OEX.store_in_old hns hw hz fun h' tk' hn' hs => hq h' tk' (fun b o hb ho => (hs.2 b hb).trans ho) hn'
end
section
variable {X : Cx} {pins : List (Addr × Obj)} {σ : St} {H : Hp} {s : Shared} {a C dx : Addr} {f : Str} {y : V} {u : Value} {fs : List (Str × V)} {Q : Unit → Shared → Prop} {E : Value → Shared → Prop} {A : Around} {B nId iId : String} {bmB : List Value}
theorem ost_first (T : OexG X.K C B nId iId bmB) (I : Inv X pins σ H s) (e : H a = some (exo a C none)) (hno : PySem.W.takerIn X.K C f = some none) (ry : RelV y u)
    (h : ∀ d s', H d = none → d ≠ a → Inv X pins σ (upd (upd H d (exd d [(f, y)])) a (exo a C (some d))) s' → Q () s') : wpAny (model X.prog X.w) A (setAttr (.ref a) f u) Q E s := by
  obtain ⟨t1, ho⟩ := exo_at I.hok e
  obtain ⟨hp, gs, dr, tc, oz⟩ := s
  refine PySem.W.set_plain I.kIn (ox := PySem.W.excObj C t1 none .none) (od := none) ⟨ho, rfl, rfl, trivial⟩ T.sa ?_
  refine put_first T I.kIn ho hno fun h' tk' d kp dn dne hx hn => ?_
  have hnd : H d = none := I.hok.fresh dn
  have old : ∀ {b : Addr} {o : Obj}, hp.get? b = some o → b ≠ d := fun {b o} q => Nat.ne_of_lt (Nat.lt_of_lt_of_le (Heap.lt_size q) dn)
  have nota : ∀ {b : Addr}, H b = none → b ≠ a := fun {b} n z => by rw [z, e] at n; cases n
  have un : Un X.fs [] H (upd (upd H d (exd d [(f, y)])) a (exo a C (some d))) hp h' :=
    ⟨fun b o q n _ _ => kp b o (nota n) q, fun b o q n _ _ => ⟨o.slots, kp b o (nota n) q⟩, fun b o q n _ => (upd_ne (nota n)).trans ((upd_ne (old q)).trans n),
      fun b o q _ => if hb : b = a then ⟨PySem.W.excObj C t1 (some d) .none, by rw [hb]; exact hx⟩ else ⟨o, kp b o hb q⟩,
      fun b xs q => (upd_ne (at_ne e q exo_tup)).trans ((upd_ne (ne_of_none q hnd)).trans q), fun b o v q => (upd_ne (at_ne e q exo_frz)).trans ((upd_ne (ne_of_none q hnd)).trans q),
      fun b ps q => ⟨#[], by rw [upd_ne (at_ne e q exo_tbl), upd_ne (ne_of_none q hnd), q]; simp⟩⟩
  refine h d _ hnd dne (I.un (t' := tk') un fun b o q => ?_)
  by_cases hb : b = a
  · subst hb
    rw [upd_same] at q
    cases q
    exact exo_ok hx
  · rw [upd_ne hb] at q
    by_cases hd : b = d
    · subst hd
      rw [upd_same] at q
      cases q
      exact exd_ok hn (relO_put (fs := []) ry fun g => True.intro)
    · rw [upd_ne hd] at q
      refine (I.hok b o q).stay (fun c v hc z => kp c v ?_ z) (fun c hc => (upd_ne (at_ne e hc exo_own)).trans ((upd_ne (ne_of_none hc hnd)).trans hc)) fun c xs hc => (upd_ne (at_ne e hc exo_tup)).trans ((upd_ne (ne_of_none hc hnd)).trans hc)
      rcases hc with hc | hc
      · rw [hc]; exact hb
      · exact at_ne e hc exo_own
theorem ost_more (T : OexG X.K C B nId iId bmB) (I : Inv X pins σ H s) (e : H a = some (exo a C (some dx))) (ed : H dx = some (exd dx fs)) (hl : fs.length ≤ 900) (hno : PySem.W.takerIn X.K C f = some none) (ry : RelV y u)
    (h : ∀ s', Inv X pins σ (upd H dx (exd dx ((f, y) :: fs))) s' → Q () s') : wpAny (model X.prog X.w) A (setAttr (.ref a) f u) Q E s := by
  obtain ⟨t1, ho⟩ := exo_at I.hok e
  obtain ⟨mA, hns, rel⟩ := exd_at I.hok ed
  have hw := within_of rel
  obtain ⟨hp, gs, dr, tc, oz⟩ := s
  obtain ⟨oD, _, _, hoD, _, _⟩ := hns.count hw
  refine PySem.W.set_plain I.kIn (ox := PySem.W.excObj C t1 (some dx) .none) (od := some oD) ⟨ho, rfl, rfl, hoD⟩ T.sa ?_
  refine put_more T I.kIn ho hns hw (by rw [List.length_map]; omega) hno fun h' tk' kp hn => ?_
  have hd : ∃ o, h'.get? dx = some o := let ⟨o, _, _, e', _⟩ := hn; ⟨o, e'⟩
  exact h _ (I.write (t' := tk') (x := dx) (e := dx) (o := exd dx ((f, y) :: fs)) (by rw [ed]; exact True.intro) (.inl rfl) kp hd (exd_ok hn (relO_put ry rel)))
/-- the built-in __init__: nothing of it is told -/
theorem oinit_any {us : List Value} {Q : Value → Shared → Prop} (T : OexG X.K C B nId iId bmB) (I : Inv X pins σ H s) (e : H a = some (exo a C none)) (hl : us.length ≤ sizeLine) (h : ∀ s', Inv X pins σ H s' → Q .none s') :
    wpAny (model X.prog X.w) A (call (.builtin iId) (.ref a :: us)) Q E s := by
  obtain ⟨nm, N', qn, bs, bm, hdct, sn, sub, ab, col, dd, k0, k1, k2, k3, k5, hC, hT⟩ := PySem.W.excInit_of I.kIn T.ini
  obtain ⟨t1, ho⟩ := exo_at I.hok e
  obtain ⟨hp, gs, dr, tc, oz⟩ := s
  refine wpAny_call (PySem.HandSPX.init_base T.bf hT hC ho hl fun h' t2 kp hx => ?_)
  have J := I.write (t' := tc) (x := a) (e := a) (o := exo a C none) (by rw [e]; exact True.intro) (.inl rfl) kp ⟨_, hx⟩ (exo_ok hx)
  have eu : upd H a (exo a C none) = H := funext fun b => if hb : b = a then by rw [hb, upd_same, e] else upd_ne hb
  rw [eu] at J
  exact h _ J
end
/-- a class whose __init__ is the built-in one, by its name -/
structure BaseC (K : PySem.W.Frag) (CB : Addr) (iId : String) : Prop where
  sp : PySem.W.specialIn K (.ref CB) "__getattribute__" = some (some (.builtin "type.__getattribute__"))
  rd : PySem.W.readsIn K CB (.type "type") = true
  fc : PySem.W.findCls K (.ref CB) (.type "type") "__init__" = some (.val (.builtin iId))
  hh : PySem.W.handedIn (.builtin iId) = true
/-- Base.__init__(self, ..) -/
def tBI (C : Addr) (ta : TA) : TE := fun σ H Q => ta σ H fun vs H1 => ∃ (a : Addr) (ws : List V), vs = .ref a :: ws ∧ ws.length ≤ 1000 ∧ H1 a = some (exo a C none) ∧ Q .non H1
/-- self.f = e -/
def tPut (C : Addr) (f : Str) (to te : TE) : TS := fun D σ H => te σ H fun y H1 => to σ H1 fun x H2 => ∃ a : Addr, x = .ref a ∧
  ((H2 a = some (exo a C none) ∧ ∀ d, H2 d = none → d ≠ a → D.nx σ (upd (upd H2 d (exd d [(f, y)])) a (exo a C (some d)))) ∨
    ∃ (d : Addr) (fs : List (Str × V)), H2 a = some (exo a C (some d)) ∧ H2 d = some (exd d fs) ∧ fs.length ≤ 900 ∧ D.nx σ (upd H2 d (exd d ((f, y) :: fs))))
section
variable {X : Cx} {o e : Expr} {es : List Expr} {to te : TE} {ta : TA} {f bx : Str} {p p' p1 p2 pos : Pos} {C CB : Addr} {B nId iId : String} {bmB : List Value}
theorem pe_binit {pl : Sem Bool} (T : OexG X.K C B nId iId bmB) (TB : BaseC X.K CB iId) (hg : Gl X bx) (hm : X.mg bx = some (.ref CB)) (hdb : (bx == ("__debug__" : Str)) = false) (ha : PA X (e :: es) ta)
    (hc : eval (.Call (.Attribute (.Name bx p1) "__init__" p2) (e :: es) [] pos) X.env = (do
      let ov ← eval (.Name bx p1) X.env
      standAt p2.atName
      let (f, first) ← holding [ov] (getMethod ov "__init__" pl)
      callWith pos f first (backTo pos (starEach (e :: es) X.env)) (backToKw pos (keywordEach [] X.env))))
    (he : starEach (e :: es) X.env = (false, eval e X.env) :: starEach es X.env) (hpl : (backTo pos (starEach es X.env)).any (·.1) = false) :
    PE X (.Call (.Attribute (.Name bx p1) "__init__" p2) (e :: es) [] pos) (tBI C ta) := by
  refine ⟨fun pins s σ H Q I h => ?_⟩
  refine PySem.W.methodCall_KW (ld_glob I hg hm ?_ hdb) hc
  refine PySem.W.method_cls I.kIn TB.sp (PySem.W.cls_value I.kIn TB.rd TB.fc TB.hh ?_)
  show wpAny _ _ (callWith pos (Value.builtin iId) [] (backTo pos (starEach (e :: es) X.env)) []) _ _ _
  refine PyProof.Rows.callWith_method1 (thn (ha.run pos pins _ σ H _ (I.tok _) h) fun us s1 ⟨vs, H1, I1, r1, a, ws, ev, hl, ea, q⟩ => ?_) he hpl
  subst ev
  cases r1 with
  | @cons _ u0 _ ur ra rw' =>
    obtain rfl : u0 = Value.ref a := ra
    have hlen : ur.length ≤ sizeLine := by rw [← Paired.length rw', sizeLine_eq]; omega
    exact oinit_any T I1 ea hlen fun s' J => ⟨.non, H1, J, rfl, q⟩
theorem ps_put (T : OexG X.K C B nId iId bmB) (hno : PySem.W.takerIn X.K C f = some none) (ho : PE X o to) (he : PE X e te) (hs : swapsWith e (some (.Attribute o f p')) pos.line X.env = pure false) : PS X (.Assign [.Attribute o f p'] e pos) (tPut C f to te) := by
  refine ⟨fun pins s σ H D I h => ?_⟩
  refine plainObj_wpAny_Assign_Attribute (thn (he.run pins s σ H _ I h) fun v s1 ⟨y, H1, I1, r1, q1⟩ => thn (ho.run pins s1 σ H1 _ I1 q1) fun u s2 ⟨x, H2, I2, r2, a, ex, q⟩ => ?_) hs
  subst ex
  obtain rfl : u = Value.ref a := r2
  rcases q with ⟨ea, q⟩ | ⟨d, fs, ea, ed, hl, q⟩
  · exact ost_first T I2 ea hno r1 fun d s' n ne J => ⟨σ, _, J, q d n ne⟩
  · exact ost_more T I2 ea ed hl hno r1 fun s' J => ⟨σ, _, J, q⟩
end
end Ps

set_option maxHeartbeats 2000000
/-! PsMk3: the promise of such an __init__; the class called. -/
namespace Ps
open PySem L2
section
variable {prog : Program} {w : World} {A : Around} {E : Value → Shared → Prop} {env : Env} {s : Shared}
/-- o.name(..) by whatever its method is -/
theorem meth_any {o : Expr} {name : Str} {apos pos : Pos} {args : List Expr} {Q : Value → Shared → Prop} (hbase : attributeBase o name env (eval o env) = eval o env) (hst : (backTo pos (starEach args env)).all (fun x => !x.1) = true) (hl : args.length < 30) (hline : (apos.endLine == pos.line) = true)
    (h : wpAny (model prog w) A (eval o env) (fun ov s1 => ∀ pl, wpAny (model prog w) A (getMethod ov name pl) (fun fx s2 => wpAny (model prog w) A (callWith pos fx.1 fx.2 (backTo pos (starEach args env)) []) Q E s2) E s1) E s) :
    wpAny (model prog w) A (eval (.Call (.Attribute o name apos) args [] pos) env) Q E s := by
  rw [arm_eval_Call, hbase]
  refine wpAny_bind (wpAny_mono h (fun ov s1 h1 => wpAny_bind (wpAny_standAt ?_)) fun _ _ e => e)
  have form : methodCallForm (args.length + ([] : List Keyword).length) (backTo pos (starEach args env)) (backToKw pos (keywordEach [] env)) = true := by
    unfold methodCallForm
    rw [hst]
    simp [backToKw, keywordEach, hl]
  have hpos : methodCallPos true o env apos pos = pure pos := by unfold methodCallPos; simp [hline]
  unfold methodCall
  rw [form]
  exact wpAny_bind (wpAny_holding (wpAny_mono (h1 _) (fun fx s2 h2 => wpAny_bind (wpAny_of_eq hpos h2)) fun _ _ e => e))
end
section
variable {X : Cx} {bx sf t : Str} {p1 p2 p3 p4 p5 pos : Pos} {j : Nat} {C CB : Addr} {B nId iId : String} {bmB : List Value} {i : Nat}
/-- Base.__init__(self, "..") -/
theorem pe_binit' (T : OexG X.K C B nId iId bmB) (TB : BaseC X.K CB iId) (hg : Gl X bx) (hm : X.mg bx = some (.ref CB)) (hdb : (bx == ("__debug__" : Str)) = false) (hs : PE X (.Name sf p3) (tVar i)) (hline : (p2.endLine == pos.line) = true) :
    PE X (.Call (.Attribute (.Name bx p1) "__init__" p2) [.Name sf p3, .Constant (.str t) j p4] [] pos) (tBI C (tCons (tVar i) (tCons (tC (.str t)) tNil))) := by
  have ha : PA X [.Name sf p3, .Constant (.str t) j p4] (tCons (tVar i) (tCons (tC (.str t)) tNil)) := pa_cons hs (pa_cons pe_str pa_nil)
  refine ⟨fun pins s σ H Q I h => ?_⟩
  refine meth_any rfl rfl (show 2 < 30 by decide) hline (ld_glob I hg hm (fun pl => ?_) hdb)
  refine PySem.W.method_cls I.kIn TB.sp (PySem.W.cls_value I.kIn TB.rd TB.fc TB.hh ?_)
  refine PyProof.Rows.callWith_method1 (thn (ha.run pos pins _ σ H _ (I.tok _) h) fun us s1 ⟨vs, H1, I1, r1, a, ws, ev, hl, ea, q⟩ => ?_) rfl rfl
  subst ev
  cases r1 with
  | @cons _ u0 _ ur ra rw' =>
    obtain rfl : u0 = Value.ref a := ra
    have hlen : ur.length ≤ sizeLine := by rw [← Paired.length rw', sizeLine_eq]; omega
    exact oinit_any T I1 ea hlen fun s' J => ⟨.non, H1, J, rfl, q⟩
end
/-- the parts of such an __init__: the base's name, the fields, each by its parameter -/
def putsOf (sf : Str) : List Stmt → Option (List Str)
  | [] => some []
  | .Assign [.Attribute (.Name s _) f _] (.Name p _) _ :: r => if s = sf ∧ p = f then (putsOf sf r).map (f :: ·) else none
  | _ => none
def initOf (sf : Str) : List Stmt → Option (Str × List Str)
  | .Expr (.Call (.Attribute (.Name bx _) m p2) [.Name s _, .Constant (.str _) _ _] [] pos) _ :: r => if m = "__init__" ∧ s = sf ∧ (p2.endLine == pos.line) = true then (putsOf sf r).map fun fs => (bx, fs) else none
  | _ => none
/-- the fields stored, the last one first -/
def fldsR (fs : List Str) (ws : List V) : List (Str × V) := (fs.zip ws).reverse
/-- what such an __init__ promises -/
def spI (C : Addr) (fs : List Str) : Sp := fun us H Q _ => ∃ (a : Addr) (ws : List V), us = .ref a :: ws ∧ ws.length = fs.length ∧ H a = some (exo a C none) ∧ ∀ d, H d = none → d ≠ a → Q .non (upd (upd H d (exd d (fldsR fs ws))) a (exo a C (some d)))
section
variable {X : Cx} {C : Addr} {B nId iId : String} {bmB : List Value}
theorem upd_upd {H : Hp} {a : Addr} {o o' : HO} : upd (upd H a o) a o' = upd H a o' := funext fun b => if h : b = a then by rw [h, upd_same, upd_same] else by rw [upd_ne h, upd_ne h, upd_ne h]
theorem upd_swap {H : Hp} {a b : Addr} {o o' : HO} (h : a ≠ b) : upd (upd H a o) b o' = upd (upd H b o') a o := funext fun c => by
  by_cases h1 : c = a
  · subst h1; rw [upd_ne h, upd_same, upd_same]
  · by_cases h2 : c = b
    · subst h2; rw [upd_same, upd_ne h1, upd_same]
    · rw [upd_ne h2, upd_ne h1, upd_ne h1, upd_ne h2]
/-- the stores behind the first: what is kept is taken on -/
theorem puts_ok (T : OexG X.K C B nId iId bmB) {sf : Str} (h0 : X.N[0]? = some sf) (hv0 : Vis X.env.scope sf) (pl0 : (sf == ("__debug__" : Str)) = false ∧ (sf == ("__classdict__" : Str)) = false) :
    ∀ {body : List Stmt} {fs : List Str}, putsOf sf body = some fs → (∀ f ∈ fs, PySem.W.takerIn X.K C f = some none ∧ (∃ i : Nat, X.N[i]? = some f ∧ Vis X.env.scope f) ∧ (f == ("__debug__" : Str)) = false ∧ (f == ("__classdict__" : Str)) = false) →
      ∃ t, PSs X body t ∧ ∀ (D : Ends) (σ : L2.St) (H : Hp) (a d : Addr) (done : List (Str × V)) (ws : List V), σ[0]? = some (some (.ref a)) → ws.length = fs.length → (∀ (f : Str) (i k : Nat), X.N[i]? = some f → fs[k]? = some f → σ[i]? = some ws[k]?) → H a = some (exo a C (some d)) → H d = some (exd d done) → d ≠ a → done.length + fs.length ≤ 900 →
        D.nx σ (upd H d (exd d (fldsR fs ws ++ done))) → t D σ H
  | [], fs, e, _ => by
    cases e
    refine ⟨_, pss_nil, fun D σ H a d done ws h1 hl hσ ha hd hne hn q => ?_⟩
    have : upd H d (exd d done) = H := funext fun b => if hb : b = d then by rw [hb, upd_same, hd] else upd_ne hb
    simp only [fldsR, List.zip_nil_left, List.reverse_nil, List.nil_append, this] at q
    exact q
  | st :: r, fs, e, hf => by
    unfold putsOf at e
    split at e
    · rename_i heq; cases heq
    · rename_i s ps f pf p pp pos r' heq
      cases heq
      split at e
      · rename_i hh
        obtain ⟨rfl, rfl⟩ := hh
        rw [Option.map_eq_some_iff] at e
        obtain ⟨fs', e1, rfl⟩ := e
        obtain ⟨hno, ⟨i, hi, hvi⟩, hd1, hd2⟩ := hf p List.mem_cons_self
        obtain ⟨t, ht, hq⟩ := puts_ok T h0 hv0 pl0 e1 fun g hg => hf g (List.mem_cons_of_mem _ hg)
        refine ⟨_, pss_cons (ps_put T hno (pe_var h0 hv0 pl0.1 pl0.2) (pe_var hi hvi hd1 hd2) rfl) ht, fun D σ H a d done ws h1 hl hσ ha hd hne hn q => ?_⟩
        cases ws with
        | nil => cases hl
        | cons y ws =>
          refine ⟨y, hσ p i 0 hi rfl, .ref a, h1, a, rfl, .inr ⟨d, done, ha, hd, by simp at hn; omega, ?_⟩⟩
          refine hq { D with } σ _ a d ((p, y) :: done) ws h1 (Nat.succ.inj hl) (fun f j k hj hk => ?_) (by rw [upd_ne (Ne.symm hne)]; exact ha) upd_same hne (by simp at hn ⊢; omega) ?_
          · have := hσ f j (k + 1) hj (by simpa using hk)
            simpa using this
          · rw [upd_upd]
            simpa [fldsR] using q
      · cases e
    · cases e
end
end Ps

set_option maxHeartbeats 2000000
/-! PsMk4: the __init__ as a def; the class called, as a value and to be raised. -/
namespace Ps
open PySem L2
/-- what is known of a class with such an __init__ -/
structure MkC (K : PySem.W.Frag) (mg : Str → Option Value) (C fI : Addr) (fd : FuncData) (ps fs : List Str) (x : Str) : Prop where
  mgC : mg x = some (.ref C)
  ex : ∃ (B nId iId : String) (bmB : List Value) (CB : Addr) (bx sf qual : Str) (params : Arguments) (body : List Stmt) (scope : Scope) (dvs : List V) (kws : List (Str × V)), OexG K C B nId iId bmB ∧ BaseC K CB iId ∧ mg bx = some (.ref CB) ∧
    FunD K "__init__" qual params body scope dvs kws fI fd ∧ FnScope ps ps scope ∧ initOf sf body = some (bx, fs) ∧ ps = sf :: fs ∧ scope.names.lookup bx = some .globalImplicit ∧ (bx == ("__debug__" : Str)) = false ∧
    (∀ y ∈ ps, Vis scope y ∧ (y == ("__debug__" : Str)) = false ∧ (y == ("__classdict__" : Str)) = false) ∧ (∀ f ∈ fs, PySem.W.takerIn K C f = some none) ∧ fs ≠ [] ∧ fs.length ≤ 800
  fnd : PySem.W.findIn K (.ref C) "__init__" = some (some (.ref fI))
  fty : PySem.W.typeIn K (.ref fI) = some (.type "function")
section
variable {P : Program} {w : World} {K : PySem.W.Frag} {mg : Str → Option Value} {base : Heap}
theorem idx_of_mem {N : List Str} {x : Str} (h : x ∈ N) : ∃ i : Nat, N[i]? = some x := List.mem_iff_getElem?.mp h
theorem nodup_at : ∀ {l : List Str} {i j : Nat} {x : Str}, l.Nodup → l[i]? = some x → l[j]? = some x → i = j
  | [], i, j, x, _, h, _ => by simp at h
  | y :: l, 0, 0, x, _, _, _ => rfl
  | y :: l, 0, j + 1, x, n, h, h2 => by
    simp at h h2
    subst h
    exact absurd (List.mem_of_getElem? h2) (List.nodup_cons.mp n).1
  | y :: l, i + 1, 0, x, n, h, h2 => by
    simp at h h2
    subst h2
    exact absurd (List.mem_of_getElem? h) (List.nodup_cons.mp n).1
  | y :: l, i + 1, j + 1, x, n, h, h2 => congrArg Nat.succ (nodup_at (List.nodup_cons.mp n).2 (by simpa using h) (by simpa using h2))
theorem fnG_init {C fI : Addr} {fd : FuncData} {ps fs : List Str} {x : Str} (M : MkC K mg C fI fd ps fs x) : FnG P w K mg base (L2.CX P w) 1 fI fd ps (spI C fs) := by
  obtain ⟨B, nId, iId, bmB, CB, bx, sf, qual, params, body, scope, dvs, kws, T, TB, mB, F, S, hi, hps, gl, db, hv, htk, f0, fl⟩ := M.ex
  refine fnG_of F S (fun vs H Q E ⟨a, ws, e, l, _⟩ => by rw [e, hps, List.length_cons, List.length_cons, l]) fun cdv A outer s H vs Q E hgd hr h => ?_
  obtain ⟨a, ws, rfl, lw, ea, q⟩ := h
  unfold initOf at hi
  split at hi
  · rename_i bx' p1 m p2 s' p3 t j p4 pos p5 r
    split at hi
    · rename_i hh
      obtain ⟨rfl, rfl, hline⟩ := hh
      rw [Option.map_eq_some_iff] at hi
      obtain ⟨fs', e1, e2⟩ := hi
      cases e2
      have nd : ps.Nodup := S.nd
      have h0 : ps[0]? = some s' := by rw [hps]; rfl
      have v0 := hv s' (by rw [hps]; exact List.mem_cons_self)
      -- the first store, the others
      cases r with
      | nil => simp only [putsOf] at e1; cases e1; exact absurd rfl f0
      | cons st1 r =>
        unfold putsOf at e1
        split at e1
        · rename_i heq; cases heq
        · rename_i s2 q1 f q2 p q3 q4 r' heq
          cases heq
          split at e1
          · rename_i hh
            obtain ⟨rfl, rfl⟩ := hh
            rw [Option.map_eq_some_iff] at e1
            obtain ⟨fs'', e1, rfl⟩ := e1
            have mem : ∀ f ∈ p :: fs'', f ∈ ps := fun f hf => by rw [hps]; exact List.mem_cons_of_mem _ hf
            have vf := hv p (mem p List.mem_cons_self)
            have hi1 : ps[1]? = some p := by rw [hps]; rfl
            let XX := cxOf (L2.CX P w) P w K mg base ps qual scope fI cdv A outer s H E
            obtain ⟨t2, ht, hq⟩ := puts_ok (X := XX) T h0 v0.1 v0.2 e1 fun g hg => ⟨htk g (List.mem_cons_of_mem _ hg), let ⟨i, hi⟩ := idx_of_mem (mem g (List.mem_cons_of_mem _ hg)); ⟨i, hi, (hv g (mem g (List.mem_cons_of_mem _ hg))).1⟩, (hv g (mem g (List.mem_cons_of_mem _ hg))).2⟩
            refine ⟨_, pss_cons (ps_expr (pe_binit' (X := XX) T TB gl mB db (pe_var h0 v0.1 v0.2.1 v0.2.2) hline) rfl) (pss_cons (ps_put T (htk p List.mem_cons_self) (pe_var h0 v0.1 v0.2.1 v0.2.2) (pe_var hi1 vf.1 vf.2.1 vf.2.2) rfl) ht), ?_⟩
            cases ws with
            | nil => cases lw
            | cons y ws =>
              have lps : ps.length = ws.length + 2 := by rw [hps]; simp at lw ⊢; omega
              have st0 : (start ps (V.ref a :: y :: ws))[0]? = some (some (.ref a)) := rfl
              have st1 : (start ps (V.ref a :: y :: ws))[1]? = some (some y) := rfl
              have lw' : ws.length = fs''.length := Nat.succ.inj lw
              refine ⟨.ref a, st0, a, [.str t], rfl, by simp, ea, ?_⟩
              refine ⟨y, st1, .ref a, st0, a, rfl, .inl ⟨ea, fun d nd' dne => ?_⟩⟩
              refine hq _ _ _ a d [(p, y)] ws st0 lw' (fun g i k hi hk => ?_) upd_same (by rw [upd_ne dne, upd_same]) dne (by simp at fl ⊢; omega) ?_
              · have hi' : ps[i]? = some g := hi
                have e3 : ps[k + 2]? = some g := by rw [hps]; simpa using hk
                have il : i < ps.length := (List.getElem?_eq_some_iff.mp hi').1
                have kl : k + 2 < ps.length := (List.getElem?_eq_some_iff.mp e3).1
                have ei : i = k + 2 := nodup_at nd hi' e3
                subst ei
                have kw : k < ws.length := by omega
                unfold L2.start
                rw [List.getElem?_append_left (by simp; omega)]
                simp [kw]
              · have := q d nd' dne
                rw [upd_swap (Ne.symm dne), upd_upd]
                simpa [fldsR] using this
          · cases e1
        · cases e1
    · cases hi
  · cases hi
end
end Ps

set_option maxHeartbeats 2000000
/-! PsMk5: any call by values and keywords; an exception made. -/
namespace Ps
open PySem L2
section
variable {X : Cx} {W : WX} {cl : Cl}
theorem kw_len : ∀ {kws : List Keyword}, kws.all (·.arg.isSome) = true → (kws.filterMap (·.arg)).length = kws.length
  | [], _ => rfl
  | q :: qs, h => by
    rw [List.all_cons, Bool.and_eq_true] at h
    obtain ⟨v, hv⟩ := Option.isSome_iff_exists.mp h.1
    rw [List.filterMap_cons, hv, List.length_cons, List.length_cons, kw_len h.2]
/-- what is known of written arguments: none is starred -/
structure Plain (env : Env) (pos : Pos) (args : List Expr) : Prop where
  cons : ∀ e es, args = e :: es → starEach (e :: es) env = (false, eval e env) :: starEach es env
  any : (backTo pos (starEach args env)).any (·.1) = false
theorem call_go {α : Type} {pins : List (Addr × Obj)} {s : Shared} {σ : L2.St} {H : Hp} {sl : Slots} {m : MP} {cs : Cells} {a : Addr} {pos : Pos} {args : List Expr} {kws : List Keyword} {es' ks' : List E} {f : List Val → Cells → R α} {P : α → Cells → MP → Hp → Prop} {Q' : Value → Shared → Prop}
    (hk : PySem.W.keepIn X.K (.ref a) = true) (ha : SA X W cl args es') (hkk : SK X W cl kws ks') (hle : es'.length = args.length) (hlk : ks'.length = kws.length) (hkw : kws.all (·.arg.isSome) = true) (hp : Plain X.env pos args)
    (I : Inv X pins σ H s) (hs : SloR (Cx.wd X) m H σ sl) (hc : CsR (Cx.wd X) m H cs) (st : Sat (Cx.wd X) (fun c d H' => W c d σ H') ((evs cl (es' ++ ks') sl cs).bind f) m H P)
    (k : ∀ (vs1 vs2 : List Val) (us ws : List V) (us' ws' : List Value) (m2 : MP) (H2 : Hp) (cs2 : Cells) (s2 : Shared), Inv X pins σ H2 s2 → Vals us us' → Vals ws ws' → us.length = args.length → ws.length = (kws.filterMap (·.arg)).length → ARs (Cx.wd X) m2 H2 vs1 us → ARs (Cx.wd X) m2 H2 vs2 ws → CsR (Cx.wd X) m2 H2 cs2 → SloR (Cx.wd X) m2 H2 σ sl →
      Sat (Cx.wd X) (fun c d H' => W c d σ H') (f (vs1 ++ vs2) cs2) m2 H2 P → wpAny (model X.prog X.w) X.A (call (.ref a) us' ((kws.filterMap (·.arg)).zip ws')) Q' X.xe s2) :
    wpAny (model X.prog X.w) X.A (callWith pos (.ref a) [] (backTo pos (starEach args X.env)) (backToKw pos (keywordEach kws X.env))) Q' X.xe s := by
  obtain ⟨w1, w2, w3⟩ := kw_all (pos := pos) (env := X.env) hkw
  have lk := kw_len hkw
  rw [evs_append] at st
  have st1 : Sat (Cx.wd X) (fun c d H' => W c d σ H') ((evs cl es' sl cs).bind fun vs cs => if vs.length = args.length then (evs cl ks' sl cs).bind fun ws cs => if ws.length = kws.length then f (vs ++ ws) cs else .stuck else .stuck) m H P := by
    cases q : evs cl es' sl cs with
    | stuck => rw [q] at st; exact st.elim
    | ex x c => rw [q] at st; exact st
    | ok vs c =>
      rw [q] at st
      simp only [R.bind_ok] at st ⊢
      rw [if_pos ((evs_len q).trans hle)]
      cases q2 : evs cl ks' sl c with
      | stuck => rw [q2] at st; exact st.elim
      | ex x c => rw [q2] at st; exact st
      | ok ws c2 =>
        rw [q2] at st
        simp only [R.bind_ok] at st ⊢
        rw [if_pos ((evs_len q2).trans hlk)]
        exact st
  -- behind the values: the keywords
  have back : ∀ (us' : List Value) (us : List V) (vs1 : List Val) (m1 : MP) (H1 : Hp) (cs1 : Cells) (s1 : Shared), Inv X pins σ H1 s1 → Vals us us' → us.length = args.length → ARs (Cx.wd X) m1 H1 vs1 us → SloR (Cx.wd X) m1 H1 σ sl → CsR (Cx.wd X) m1 H1 cs1 →
      Sat (Cx.wd X) (fun c d H' => W c d σ H') ((evs cl ks' sl cs1).bind fun ws cs => if ws.length = kws.length then f (vs1 ++ ws) cs else .stuck) m1 H1 P →
      wpAny (model X.prog X.w) X.A (evalAll ((backToKw pos (keywordEach kws X.env)).map (·.2))) (fun ks s2 => X.K.In s2.heap ∧ wpAny (model X.prog X.w) X.A (call (.ref a) us' (((backToKw pos (keywordEach kws X.env)).filterMap (·.1)).zip ks)) Q' X.xe s2) X.xe s1 := by
    intro us' us vs1 m1 H1 cs1 s1 I1 r l rs hs1 c1 t1
    refine thn (hkk.run pos pins s1 σ H1 (fun zs H2 => zs.length = kws.length ∧ ∃ vs2 m2 cs2, ARs (Cx.wd X) m2 H2 vs1 us ∧ ARs (Cx.wd X) m2 H2 vs2 zs ∧ CsR (Cx.wd X) m2 H2 cs2 ∧ SloR (Cx.wd X) m2 H2 σ sl ∧ Sat (Cx.wd X) (fun c d H' => W c d σ H') (f (vs1 ++ vs2) cs2) m2 H2 P) I1 ?_) fun ws s2 ⟨zs, H2, I2, rz, q2⟩ => ⟨I2.kIn, ?_⟩
    · refine ⟨sl, m1, cs1, hs1, c1, (Sat.bind t1).mono (fun ws cs2 m2 H2 e2 c2 s2 zs r2 => ?_) fun _ _ _ z => z⟩
      split at s2
      · exact ⟨by rw [← r2.length]; assumption, ws, m2, cs2, rs.ext e2, r2, c2, hs1.ext e2, s2⟩
      · exact s2.elim
    · obtain ⟨l2, vs2, m2, cs2, ra1, ra2, c2, hs2, s2⟩ := q2
      rw [w3]
      exact k vs1 vs2 us zs us' ws m2 H2 cs2 _ I2 r rz l (l2.trans lk.symm) ra1 ra2 c2 hs2 s2
  cases args with
  | nil =>
    refine PySem.W.callWith_KW0 (h₀ := X.base) I.ok.mod.kin hk w1 ?_ (by rw [w2]; rfl)
    have es0 : es' = [] := List.eq_nil_of_length_eq_zero hle
    subst es0
    simp only [evs, R.bind_ok] at st1
    rw [if_pos (show ([] : List Val).length = ([] : List Expr).length from rfl)] at st1
    exact back [] [] [] m H cs s I .nil rfl .nil hs hc st1
  | cons e es =>
    refine PySem.W.callWith_KW (h₀ := X.base) I.ok.mod.kin hk w1 (thn (ha.run pos pins s σ H (fun us H1 => us.length = (e :: es).length ∧ ∃ vs m1 cs1, ARs (Cx.wd X) m1 H1 vs us ∧ SloR (Cx.wd X) m1 H1 σ sl ∧ CsR (Cx.wd X) m1 H1 cs1 ∧ Sat (Cx.wd X) (fun c d H' => W c d σ H') ((evs cl ks' sl cs1).bind fun ws cs => if ws.length = kws.length then f (vs ++ ws) cs else .stuck) m1 H1 P) I ?_) fun us s1 ⟨vs, H1, I1, r, q⟩ => ?_) (by rw [hp.any, w2]; rfl) (hp.cons e es rfl)
    · refine ⟨sl, m, cs, hs, hc, (Sat.bind st1).mono (fun vs cs1 m1 H1 e1 c1 s1 us r1 => ?_) fun _ _ _ z => z⟩
      split at s1
      · exact ⟨by rw [← r1.length]; assumption, vs, m1, cs1, r1, hs.ext e1, c1, s1⟩
      · exact s1.elim
    · obtain ⟨l, vs1, m1, cs1, rs, hs1, c1, t1⟩ := q
      exact back us vs vs1 m1 H1 cs1 s1 I1 r l rs hs1 c1 t1
end
/-! ### how the values come to __init__ -/
/-- values and defaults in the fields' order -/
def putI {α : Type} (sh : List (Nat ⊕ Nat)) (us ds : List α) : List α := sh.filterMap fun
  | .inl i => us[i]?
  | .inr j => ds[j]?
/-- C(..) of n values and the keywords ks: shv tells where the fields come from, the last one first -/
def BindI (w : Wd) (fd : FuncData) (ps fs : List Str) (n : Nat) (ks : List Str) (shv : List (Nat ⊕ Val)) : Prop :=
  ∃ (g : List Value → List Value → List Value) (gV : List V → List V → List V), (∀ (s : Shared) (u : Value) (us ws : List Value), w.K.In s.heap → us.length = n → ws.length = ks.length → BindsTo s fd ⟨u :: us, ks.zip ws⟩ (ps.zip (u :: g us ws))) ∧
    (∀ {vs : List V} {us : List Value} {zs : List V} {ws : List Value}, Vals vs us → Vals zs ws → Vals (gV vs zs) (g us ws)) ∧
    ∀ m H vs us zs ws vs', ARs w m H vs us → ARs w m H zs ws → us.length = n → ws.length = ks.length → shape shv (vs ++ zs) = some vs' → ARs w m H vs' (gV us ws).reverse ∧ (gV us ws).length = fs.length
section
variable {X : Cx} {W : WX} {cl : Cl}
theorem fldsR_eq {fs : List Str} {ws : List V} (h : ws.length = fs.length) : fldsR fs ws = fs.reverse.zip ws.reverse := by
  unfold fldsR
  rw [List.zip_eq_zipWith, List.zip_eq_zipWith, List.reverse_zipWith h.symm]
/-- the class called -/
theorem run_cls {pins : List (Addr × Obj)} {s : Shared} {σ : L2.St} {H : Hp} {Q : XK} {C fI : Addr} {fd : FuncData} {ps fs ks : List Str} {x : Str} {us ws gu : List Value} {gv : List V} (M : MkC X.K X.mg C fI fd ps fs x) (hgd : X.A.guards = some []) (hr : Room 2 X.A) (I : Inv X pins σ H s)
    (hl : us.length ≤ 1000) (hb : ∀ (s : Shared) (u : Value), X.K.In s.heap → BindsTo s fd ⟨u :: us, ks.zip ws⟩ (ps.zip (u :: gu))) (rg : Vals gv gu) (hlg : gv.length = fs.length) (h : ∀ d, H d = none → Q (.ref C) (some d) (upd H d (.xd (fldsR fs gv)))) :
    wpAny (model X.prog X.w) X.A (call (.ref C) us (ks.zip ws)) (MkP X pins σ Q) X.xe s := by
  have F1 := fnG_init (P := X.prog) (w := X.w) (base := X.base) M
  obtain ⟨B, nId, iId, bmB, CB, bx, sf, qual, params, body, scope, dvs, kws, T, _⟩ := M.ex
  obtain ⟨nm, N', qn, bs, bm, hdct, sn, sub, ab, col, dd, k0, k1, k2, k3, k5, hC, hT⟩ := PySem.W.excInit_of I.kIn T.ini
  obtain ⟨hp, gs, dr, tc, oz⟩ := s
  have hsz : hp.objs.size ≤ hp.objs.size + 1 := Nat.le_succ _
  have hn : H (hp.objs.size + 1) = none := I.hok.fresh hsz
  have kk : ∀ b o, hp.get? b = some o → ((hp.push (PySem.W.kdv_tup us)).push (PySem.HandSPX.excO C hp.objs.size)).get? b = some o := fun b o e => Heap.get?_push_of_some _ (Heap.get?_push_of_some _ e)
  have hget : ((hp.push (PySem.W.kdv_tup us)).push (PySem.HandSPX.excO C hp.objs.size)).get? (hp.objs.size + 1) = some (PySem.HandSPX.excO C hp.objs.size) := by heap_get
  have I2 : Inv X pins σ (upd H (hp.objs.size + 1) (exo (hp.objs.size + 1) C none)) ⟨(hp.push (PySem.W.kdv_tup us)).push (PySem.HandSPX.excO C hp.objs.size), gs, dr, tc, oz⟩ :=
    I.laid (t' := tc) (a := hp.objs.size + 1) (o := exo (hp.objs.size + 1) C none) (h' := (hp.push (PySem.W.kdv_tup us)).push (PySem.HandSPX.excO C hp.objs.size)) kk hsz (exo_ok hget)
  have gd : (X.A.under (.builtin "type.__call__" ⟨.ref C :: us, ks.zip ws⟩)).guards = some [] := by
    first | exact hgd | simpa [Around.under] using hgd
  have hsp : spI C fs (.ref (hp.objs.size + 1) :: gv) (upd H (hp.objs.size + 1) (exo (hp.objs.size + 1) C none)) (fun v H2 => v = .non ∧ ∃ (d : Addr) (fl : List (Str × V)), H2 (hp.objs.size + 1) = some (exo (hp.objs.size + 1) C (some d)) ∧ H2 d = some (exd d fl) ∧ H d = none ∧ Q (.ref C) (some d) (upd (del H2 (hp.objs.size + 1)) d (.xd fl))) (fun _ _ _ => False) := by
    refine ⟨_, gv, rfl, hlg, upd_same, fun d nd dne => ⟨rfl, d, _, upd_same, by rw [upd_ne dne, upd_same], ?_, ?_⟩⟩
    · rw [upd_ne dne] at nd; exact nd
    · rw [upd_ne dne] at nd
      have e : upd (del (upd (upd (upd H (hp.objs.size + 1) (exo (hp.objs.size + 1) C none)) d (exd d (fldsR fs gv))) (hp.objs.size + 1) (exo (hp.objs.size + 1) C (some d))) (hp.objs.size + 1)) d (.xd (fldsR fs gv)) = upd H d (.xd (fldsR fs gv)) := by
        funext b
        by_cases hb : b = d
        · rw [hb, upd_same, upd_same]
        · rw [upd_ne hb, upd_ne hb]
          by_cases hb2 : b = hp.objs.size + 1
          · rw [hb2, del_same, hn]
          · rw [del_ne hb2, upd_ne hb2, upd_ne hb, upd_ne hb2]
      rw [e]
      exact h d nd
  refine wpAny_call (mk_call T.bf hT hC (PySem.W.looks_findIn I.kIn M.fnd) (fun x => PySem.W.bind_fn I.kIn x M.fty) (by rw [sizeLine_eq]; omega)
    (codeAny_mono (F1.run _ X.stack _ _ ⟨Value.ref (hp.objs.size + 1) :: us, ks.zip ws⟩ (Value.ref (hp.objs.size + 1) :: gu) (V.ref (hp.objs.size + 1) :: gv) _ (fun _ _ _ => False) gd (hr.make C us (ks.zip ws)) (I2.env0.make C us (ks.zip ws)) (hb _ _ I2.kIn) (.cons rfl rg) hsp) fun r s' hq' => ?_))
  cases r with
  | error er =>
    obtain ⟨_, _, _, _, _, _, _, _, _, _, _, _, y⟩ := hq'
    exact y.elim
  | ok fl =>
    cases fl with
    | ret u =>
      obtain ⟨v, H2, os2, bare2, un2, hok2, rv, ev, d, fs2, ea, ed, hd1, q2⟩ := hq'
      subst ev
      obtain ⟨h2, g2, d2, t2, os'⟩ := s'
      exact ⟨rv, mk_end (raises_own T.k.hs T.k.ty) I hsz kk un2 hok2 os2 bare2 ea ed hd1 q2⟩
    | next => exact False.elim hq'
    | brk => exact False.elim hq'
    | cont => exact False.elim hq'
end
end Ps

set_option maxHeartbeats 2000000
/-! PsMk6: exceptions with fields in the small interpreter: made, raised, their fields read. -/
namespace Ps
open PySem L2
/-- x(..) of n values and the keywords ks makes an exception with the fields kf, which come as shv tells -/
def MkOk (K : PySem.W.Frag) (mg : Str → Option Value) (x : Str) (n : Nat) (ks kf : List Str) (shv : List (Nat ⊕ Val)) : Prop :=
  ∃ (C fI : Addr) (fd : FuncData) (ps fs : List Str), MkC K mg C fI fd ps fs x ∧ PySem.W.keepIn K (.ref C) = true ∧ kf = fs.reverse ∧ n ≤ 1000 ∧ BindI ⟨K, mg⟩ fd ps fs n ks shv
/-- the field f may be read of exceptions of these classes -/
def FldOk (K : PySem.W.Frag) (mg : Str → Option Value) (f : Str) (tab : List Str) : Prop := ∀ n ∈ tab, ∃ C, mg n = some (.ref C) ∧ XfC K C ∧ PySem.W.findIn K (.ref C) f = some none
def mkV (cl : Cl) (x : Str) (kf : List Str) (es : List E) (sh : List (Nat ⊕ Val)) (sl : Slots) (cs : Cells) : R Val := (evs cl es sl cs).bind fun vs cs => (R.of (shape sh vs) cs).bind fun vs cs => if vs.all noRef && decide (vs.length = kf.length) then .ok (.exc x kf vs) cs else .stuck
/-- what is wanted of an exception that is made -/
def tMk (w : Wd) (W : WX) (cl : Cl) (x : Str) (kf : List Str) (es : List E) (sh : List (Nat ⊕ Val)) : L2.St → Hp → XK → Prop := fun σ H Q => ∃ sl m cs, SloR w m H σ sl ∧ CsR w m H cs ∧ Sat w (fun c d H' => W c d σ H') (mkV cl x kf es sh sl cs) m H fun v cs' m' H' => ∀ c d, XR w m' H' v c d → Q c d H'
section
variable {X : Cx} {W : WX} {cl : Cl}
theorem pmk_mkx {x : Str} {args : List Expr} {kws : List Keyword} {es' ks' : List E} {kf : List Str} {sh : List (Nat ⊕ Val)} {p pos : Pos} (hgd : X.A.guards = some []) (hr : Room 2 X.A) (M : MkOk X.K X.mg x args.length (kws.filterMap (·.arg)) kf sh) (hg : Gl X x) (hdb : (x == ("__debug__" : Str)) = false)
    (ha : SA X W cl args es') (hkk : SK X W cl kws ks') (hle : es'.length = args.length) (hlk : ks'.length = kws.length) (hkw : kws.all (·.arg.isSome) = true) (hp : Plain X.env pos args) : PMk X (.Call (.Name x p) args kws pos) (tMk (Cx.wd X) W cl x kf (es' ++ ks') sh) := by
  obtain ⟨C, fI, fd, ps, fs, MC, kC, rfl, hn, g, gV, hb1, hb2, hb3⟩ := M
  intro pins s σ H Q I ⟨sl, m, cs, hs, hc, st⟩
  refine wpAny_Call_Name_kw (ld_glob I hg MC.mgC ?_ hdb)
  refine call_go kC ha hkk hle hlk hkw hp I hs hc st fun vs1 vs2 us ws us' ws' m2 H2 cs2 s2 I2 r rz l1 l2 ra1 ra2 c2 hs2 t => ?_
  cases qs : shape sh (vs1 ++ vs2) with
  | none => rw [qs] at t; exact t.elim
  | some vs3 =>
    rw [qs] at t
    simp only [R.of_some, R.bind_ok] at t
    split at t
    · rename_i hk
      rw [Bool.and_eq_true] at hk
      obtain ⟨g1, g2⟩ := hb3 m2 H2 vs1 us vs2 ws vs3 ra1 ra2 l1 l2 qs
      refine run_cls MC hgd hr I2 (by rw [← r.length, l1]; exact hn) (fun s u X' => hb1 s u us' ws' X' (r.length.symm.trans l1) (rz.length.symm.trans l2)) (hb2 r rz) g2 fun d nd => ?_
      have nm := c2.free nd
      have ex := Ext.alloc (o := HO.xd (fldsR fs (gV us ws))) nd nm
      refine t m2 _ ex (c2.alloc nd) (.ref C) (some d) ⟨x, fs.reverse, vs3, C, rfl, MC.mgC, rfl, .inr ⟨d, (gV us ws).reverse, rfl, by simp [g2], by rw [upd_same, fldsR_eq g2], nm, (g1.trees hk.1).ext ex⟩⟩
    · exact t.elim
/-- what is made is kept as a value -/
theorem pe_of_mk {e : Expr} {t : L2.St → Hp → XK → Prop} (h : PMk X e t) : PE X e (fun σ H Q => t σ H fun cls d H1 => ∀ a, H1 a = none → Q (.ref a) (upd H1 a (exv a cls d))) := by
  refine ⟨fun pins s σ H Q I q => wpAny_mono (h pins s σ H _ I q) (fun u s1 hu => ?_) fun _ _ z => z⟩
  obtain ⟨a, oe, vs, sI, H', cls, d, rfl, J, kp, na, ho, hz, hd, h1, nH, os, bare, _, q⟩ := hu
  obtain ⟨hp, gs, dr, tc, oz⟩ := s1
  obtain ⟨hp0, gs0, dr0, tc0, oz0⟩ := sI
  have eo : oz = oz0 := os
  subst eo
  have J1 : Inv X pins σ H' ⟨hp0, gs, dr, tc, oz⟩ := ⟨J.ok, J.os, bare, J.base, J.loc, J.cell, J.free, J.freeC, J.pin, J.hok, J.len⟩
  exact ⟨.ref a, upd H' a (exv a cls d), J1.laidN kp na nH (exv_ok ho hz hd), rfl, q a nH⟩
theorem s_mkx {x : Str} {args : List Expr} {kws : List Keyword} {es' ks' : List E} {kf : List Str} {sh : List (Nat ⊕ Val)} {p pos : Pos} (hgd : X.A.guards = some []) (hr : Room 2 X.A) (M : MkOk X.K X.mg x args.length (kws.filterMap (·.arg)) kf sh) (hg : Gl X x) (hdb : (x == ("__debug__" : Str)) = false)
    (ha : SA X W cl args es') (hkk : SK X W cl kws ks') (hle : es'.length = args.length) (hlk : ks'.length = kws.length) (hkw : kws.all (·.arg.isSome) = true) (hp : Plain X.env pos args) : SE X W cl (.Call (.Name x p) args kws pos) (.mkx x kf (es' ++ ks') sh) := by
  refine (pe_of_mk (pmk_mkx hgd hr M hg hdb ha hkk hle hlk hkw hp)).weak fun σ H Q ⟨sl, m, cs, hs, hc, s⟩ => ⟨sl, m, cs, hs, hc, ?_⟩
  have s' : Sat (Cx.wd X) (fun c d H' => W c d σ H') (mkV cl x kf (es' ++ ks') sh sl cs) m H (QE (Cx.wd X) Q) := s
  have key : ∀ v cs', mkV cl x kf (es' ++ ks') sh sl cs = .ok v cs' → ∃ vs, v = .exc x kf vs := by
    intro v cs' e
    unfold mkV at e
    cases q : evs cl (es' ++ ks') sl cs with
    | stuck => rw [q] at e; cases e
    | ex y c => rw [q] at e; cases e
    | ok vs c =>
      rw [q] at e
      simp only [R.bind_ok] at e
      cases q2 : shape sh vs with
      | none => rw [q2] at e; cases e
      | some ws =>
        rw [q2] at e
        simp only [R.of_some, R.bind_ok] at e
        split at e
        · cases e; exact ⟨ws, rfl⟩
        · cases e
  cases qv : mkV cl x kf (es' ++ ks') sh sl cs with
  | stuck => rw [qv] at s'; exact s'.elim
  | ex y c => rw [qv] at s'; exact s'
  | ok v cs' =>
    rw [qv] at s'
    obtain ⟨vs, rfl⟩ := key v cs' qv
    intro m' H' e' c' c d xr a na
    obtain ⟨n, ks, vs2, C, e1, e2, rfl, hd⟩ := xr
    cases e1
    have al := Ext.alloc (o := exv a (.ref C) d) na (c'.free na)
    have hd' : ∃ us, ExD m' H' d kf us ∧ VRs (Cx.wd X) m' H' vs us := by
      rcases hd with ⟨z1, z2, z3⟩ | ⟨dd, us, k1, k2, k3, k4, k5⟩
      · exact ⟨[], .inl ⟨z1, rfl, z3⟩, by rw [z2]; exact .nil⟩
      · exact ⟨us, .inr ⟨dd, k1, k2, k3, k4⟩, k5⟩
    obtain ⟨us, hd1, hd2⟩ := hd'
    exact s' m' _ (e'.trans al) (c'.alloc na) (.ref a) (.val (.exc upd_same (c'.free na) e2 (hd1.mon al.mon) (hd2.ext al)))
theorem s_rais {x : Str} {args : List Expr} {kws : List Keyword} {es' ks' : List E} {kf : List Str} {sh : List (Nat ⊕ Val)} {p pos pos' : Pos} (hc : X.calm = true) (tk : Takes X W) (hgd : X.A.guards = some []) (hr : Room 2 X.A) (M : MkOk X.K X.mg x args.length (kws.filterMap (·.arg)) kf sh) (hg : Gl X x) (hdb : (x == ("__debug__" : Str)) = false)
    (ha : SA X W cl args es') (hkk : SK X W cl kws ks') (hle : es'.length = args.length) (hlk : ks'.length = kws.length) (hkw : kws.all (·.arg.isSome) = true) (hp : Plain X.env pos args) : SS X W cl (.Raise (some (.Call (.Name x p) args kws pos)) none pos') (.rais x kf (es' ++ ks') sh) := by
  refine (ps_raise hc tk (pmk_mkx hgd hr M hg hdb ha hkk hle hlk hkw hp)).weak fun D σ H ⟨sl, m, cs, hs, hc, s⟩ => ⟨sl, m, cs, hs, hc, ?_⟩
  simp only [ex] at s
  unfold mkV
  cases q : evs cl (es' ++ ks') sl cs with
  | stuck => rw [q] at s; exact s.elim
  | ex y c =>
    rw [q] at s
    exact fun c d m' H' e c' xr => s c d m' H' e c' xr σ
  | ok vs c =>
    rw [q] at s
    simp only [R.bind_ok] at s ⊢
    cases q2 : shape sh vs with
    | none => rw [q2] at s; exact s.elim
    | some ws =>
      rw [q2] at s
      simp only [R.of_some, R.bind_ok] at s ⊢
      split at s
      · rename_i hk
        rw [if_pos hk]
        exact fun m' H' e c' c d xr => s c d m' H' e c' xr σ
      · exact s.elim
/-- e.f -/
theorem s_fld {e : Expr} {e' : E} {f : Str} {tab : List Str} {pos : Pos} (T : FldOk X.K X.mg f tab) (he : SE X W cl e e') (hb : attributeBase e f X.env (eval e X.env) = eval e X.env) : SE X W cl (.Attribute e f pos) (.fld e' f tab) := by
  refine ⟨fun pins s σ H Q I ⟨sl, m, cs, hs, hc, st⟩ => ?_⟩
  simp only [ev] at st
  refine attr_of hb (thn (he.run pins s σ H (fun x H1 => ∃ (a C dd : Addr) (fs : List (Str × V)) (v : V), x = .ref a ∧ H1 a = some (exv a (.ref C) (some dd)) ∧ H1 dd = some (.xd fs) ∧ fs.lookup f = some v ∧ XfC X.K C ∧ PySem.W.findIn X.K (.ref C) f = some none ∧ Q v H1) I ?_) fun u s1 hh => ?_)
  · refine first hs hc st fun y cs1 m1 H1 w1 e1 hs1 c1 r1 s1 => ?_
    obtain ⟨b, e, s2⟩ := sat_of2 (α := Unit) s1
    cases y with
    | exc n ks vs =>
      have e : (if tab.contains n then (ks.zip vs).lookup f else none) = some b := e
      split at e
      · rename_i hcn
        cases r1 with
        | val r1 =>
          cases r1 with
          | exc ea na gn hd rv =>
            obtain ⟨C, g1, g2, g3⟩ := T n (by simpa using hcn)
            have g1' : (Cx.wd X).mg n = some (.ref C) := g1
            rw [g1'] at gn
            cases gn
            rcases hd with ⟨z1, z2, z3⟩ | ⟨dd, k1, k2, k3, k4⟩
            · subst z1; cases e
            · subst k1
              rename_i us _
              have key : ∀ {ks : List Str} {vs : List Val} {us : List V}, VRs (Cx.wd X) m1 H1 vs us → (ks.zip vs).lookup f = some b → ∃ v, (ks.zip us).lookup f = some v ∧ VR (Cx.wd X) m1 H1 b v := by
                intro ks
                induction ks with
                | nil => intro vs us _ e; cases e
                | cons k ks ih =>
                  intro vs us r e
                  cases r with
                  | nil => cases e
                  | cons h t =>
                    rw [List.zip_cons_cons, List.lookup_cons] at e ⊢
                    split at e
                    · cases e; exact ⟨_, rfl, h⟩
                    · exact ih t e
              obtain ⟨v, l, rv'⟩ := key rv e
              exact ⟨_, _, dd, _, v, rfl, ea, k3, l, g2, g3, sat_at c1 s2 (.val rv')⟩
      · cases e
    | _ => cases e
  · obtain ⟨x, H1, I1, rx, a, C, dd, fs, v, rfl, ea, ed, l, T', hno, q⟩ := hh
    obtain rfl : u = Value.ref a := rx
    obtain ⟨oe, vs, ha, hz, hd⟩ := exv_at I1.hok ea
    have hx : ObjOk X.prog X.w H1 s1.heap dd (.xd fs) := I1.hok dd _ ed
    obtain ⟨mA, hns, hr⟩ := hx
    obtain ⟨od, ho, hl⟩ := lookIn_ns hns
    obtain ⟨u, hu, ru⟩ := RelO.some_of (v := v) (o := mA f) (by rw [← l]; exact hr f)
    have J : PySem.W.InstAt s1.heap a oe C (some od) := ⟨ha, hz.1, by unfold PySem.W.notCls; rw [hd] <;> rfl, by rw [hz.2]; exact ho⟩
    exact HandSPX.exc_get I1.kIn J T'.ga T'.gg T'.exC (PySem.W.findObj_own T'.hdC hno rfl (by rw [hl, hu])) (handed_of ru) ⟨v, H1, I1.tok _, ru, q⟩
end
end Ps
namespace Ps
open PySem L2
section
variable {X : Cx} {W : WX} {cl : Cl}
/-- x("..") of a class without own __init__, as a value -/
theorem s_mk0 {x t : Str} {j : Nat} {p p2 pos : Pos} (hg : Gl X x) (hdb : (x == ("__debug__" : Str)) = false) (T : RaiOk X.K X.mg x) : SE X W cl (.Call (.Name x p) [.Constant (.str t) j p2] [] pos) (.mkx x [] [] []) := by
  obtain ⟨C, B, ni, ii, bm, g1, F, q, k⟩ := T
  refine (pe_of_mk (pmk_own F q g1 k.kp (raises_own k.hs k.ty) hg hdb)).weak fun σ H Q ⟨sl, m, cs, hs, hc, s⟩ a na => ?_
  simp only [ev, evs, R.bind_ok, shape, List.mapM_nil, Option.pure_def, R.of_some] at s
  have al := Ext.alloc (o := exv a (.ref C) none) na (hc.free na)
  exact s m _ al (hc.alloc na) (.ref a) (.val (.exc upd_same (hc.free na) g1 (.inl ⟨rfl, rfl, rfl⟩) .nil))
end
end Ps
namespace Ps
open PySem L2
section
variable {X : Cx} {W : WX} {cl : Cl}
/-- any call of a def -/
theorem s_callA {f : Str} {args : List Expr} {kws : List Keyword} {es' ks' : List E} {sh : List (Nat ⊕ Val)} {p pos : Pos} (tk : Takes X W) (C : Callee X cl f args.length (kws.filterMap (·.arg)) sh) (hg : Gl X f) (hdb : (f == ("__debug__" : Str)) = false)
    (ha : SA X W cl args es') (hkk : SK X W cl kws ks') (hle : es'.length = args.length) (hlk : ks'.length = kws.length) (hkw : kws.all (·.arg.isSome) = true) (hp : Plain X.env pos args) : SE X W cl (.Call (.Name f p) args kws pos) (.call f (es' ++ ks') sh) := by
  obtain ⟨a, fd, ps, k, g, gV, hm, hkp, hgd, hr, hb, F, hsh⟩ := C.ex
  refine ⟨fun pins s σ H Q I ⟨sl, m, cs, hs, hc, st⟩ => ?_⟩
  simp only [ev] at st
  refine wpAny_Call_Name_kw (ld_glob I hg hm ?_ hdb)
  refine call_go hkp ha hkk hle hlk hkw hp I hs hc st fun vs1 vs2 us ws us' ws' m2 H2 cs2 s2 I2 r rz l1 l2 ra1 ra2 c2 hs2 t => ?_
  cases qs : shape sh (vs1 ++ vs2) with
  | none => rw [qs] at t; exact t.elim
  | some vs3 =>
    rw [qs] at t
    simp only [R.of_some, R.bind_ok] at t
    obtain ⟨g1, g2⟩ := hsh m2 H2 vs1 us vs2 ws vs3 ra1 ra2 l1 l2 qs
    exact run_callee F hgd hr hb tk I2 r rz l1 l2 ⟨g2, vs3, m2, cs2, g1, c2, t⟩
end
end Ps

set_option maxHeartbeats 1000000
/-! PsTr: from the model's syntax. -/
namespace Ps
open PySem L2

/-- what is known of the module: constants; built-in names that stand free; calls: a def, how many values, keywords, how they come to its parameters -/
structure Gv where
  consts : List (Str × Val)
  free : List Str
  calls : List ((Str × Nat × List Str) × List (Nat ⊕ Val))
  isa : List (Str × List (Str × Bool)) := []
  rai : List (Str × String) := []
  mkx : List ((Str × Nat × List Str) × (List Str × List (Nat ⊕ Val))) := []
  fld : List (Str × List Str) := []
structure Cfg where
  N : List Str
  sc : Scope
  all : Bool
  G : Gv
  mu : List Str := []
def Cfg.blk (c : Cfg) (scope : Scope) : Cfg := { c with sc := relS scope c.sc, all := false }
def ok? (b : Bool) : Option Unit := if b then some () else none
def idx : List Str → Str → Option Nat
  | [], _ => none
  | y :: ys, x => if x = y then some 0 else (idx ys x).map (· + 1)
def visB (sc : Scope) (x : Str) : Bool := match sc.names.lookup x with
  | some .local => true
  | some .cell => true
  | some .free => true
  | _ => false
def locB (c : Cfg) (x : Str) : Bool := match c.sc.names.lookup x with
  | some .local => true
  | some .cell => c.all
  | _ => false
def glB (sc : Scope) (x : Str) : Bool := decide (sc.names.lookup x = some .globalImplicit)
def plainN (x : Str) : Bool := !(x == ("__debug__" : Str)) && !(x == ("__classdict__" : Str)) && !(x == ("__name__" : Str))
def notStar : Expr → Bool
  | .Starred _ _ => false
  | _ => true
def notSlice : Expr → Bool
  | .Slice _ _ _ _ => false
  | _ => true
def notSet : Expr → Bool
  | .Set _ _ _ => false
  | _ => true
def notComp : Expr → Bool
  | .ListComp _ _ _ _ => false
  | .SetComp _ _ _ _ => false
  | .DictComp _ _ _ _ _ => false
  | _ => true
def notTuple : Expr → Bool
  | .Tuple _ _ _ => false
  | _ => true
def bopOf : Operator → Option Bop
  | .Add => some .add
  | .Sub => some .sub
  | .Mult => some .mul
  | .Mod => some .mod
  | .FloorDiv => some .fdiv
  | .Pow => some .pow
  | _ => none
def copOf : CmpOp → Option Cop
  | .Eq => some .eq
  | .NotEq => some .ne
  | .Lt => some .lt
  | .LtE => some .le
  | .Gt => some .gt
  | .GtE => some .ge
  | .Is => some .is_
  | .IsNot => some .isNot
  | .In => some .isIn
  | .NotIn => some .notIn
def primOf (x : Str) : Option Prim := [Prim.len, .abs, .max, .min, .int, .str, .repr, .sum, .all, .any, .isInst, .tuple, .list].find? fun p => decide ((primPy p).1 = x)
def smOf (x : Str) : Option Sm := [Sm.split, .join, .startswith, .upper, .index].find? fun p => decide ((smPy p).1 = x)
def lmOf (x : Str) : Option Lm := [Lm.append, .insert, .extend, .pop].find? fun p => decide ((lmPy p).1 = x)
def tyNames : List (Str × String) := [("int", "int"), ("str", "str"), ("tuple", "tuple"), ("list", "list"), ("bool", "bool"), ("dict", "dict")]
def baseOk : Expr → Bool
  | .Call (.Name id _) [] [] _ => id != "super"
  | _ => true
def trL (f : Expr → Option E) : List Expr → Option (List E)
  | [] => some []
  | e :: es => match f e, trL f es, notStar e with
    | some a, some as, true => some (a :: as)
    | _, _, _ => none
/-- an operator's chain of values -/
def trB (f : Expr → Option E) (op : BoolOp) : List Expr → Option E
  | [] => none
  | [e] => f e
  | e :: es => match f e, trB f op es with
    | some a, some b => some (match op with | .And => .and_ a b | .Or => .or_ a b)
    | _, _ => none
def trP (f : Expr → Option E) : Option Expr → Option (E × Bool)
  | none => some (.const .non, false)
  | some e => (f e).map fun a => (a, true)
mutual
def trT (c : Cfg) : Nat → Expr → Option Tg
  | 0, _ => none
  | n + 1, .Name x _ => match idx c.N x, locB c x with
    | some i, true => some (.nm i)
    | _, _ => none
  | n + 1, .Tuple es _ _ => (trTs c n es).map .tp
  | _, _ => none
def trTs (c : Cfg) : Nat → List Expr → Option (List Tg)
  | _, [] => some []
  | 0, _ => none
  | n + 1, e :: es => match trT c n e, trTs c n es, notStar e with
    | some t, some ts, true => some (t :: ts)
    | _, _, _ => none
end
/-- zip(e, e2), zip(e, e2, strict=True) -/
def zipOf (c : Cfg) : Expr → Option (Bool × Expr × Expr)
  | .Call (.Name x _) [e, e2] kws _ => if decide (x = "zip") && (glB c.sc "zip" && (c.G.free.contains "zip" && (notStar e && notStar e2))) then
      (match kws with
      | [] => some (false, e, e2)
      | [⟨some k, .Constant (.bool true) _ _, _⟩] => if k = "strict" then some (true, e, e2) else none
      | _ => none) else none
  | _ => none
/-- list(zip(..)) -/
def ziplOf (c : Cfg) (g : Str) (args : List Expr) : Option (Bool × Expr × Expr) := match args with
  | [a] => if decide (g = "list") && (glB c.sc "list" && c.G.free.contains "list") then zipOf c a else none
  | _ => none
/-- what a loop walks -/
def trI (f : Expr → Option E) (c : Cfg) (tg iter : Expr) : Option (ItK × List E) := match zipOf c iter with
  | some (st, e, e2) => if notTuple tg then none else (trL f [e, e2]).map fun es => (zK st, es)
  | none => match iter with
  | .Call (.Name x _) args [] pos =>
    if glB c.sc x && c.G.free.contains x then
      (if x = "range" then (match args with
        | [e] => (trL f [e]).map fun es => (.rng1, es)
        | [e, e2] => (trL f [e, e2]).map fun es => (.rng2, es)
        | _ => none)
      else if x = "enumerate" then (match args, notTuple tg with
        | [e], false => (trL f [e]).map fun es => (.enum, es)
        | _, _ => none)
      else (f iter).map fun e => (.val, [e]))
    else (f iter).map fun e => (.val, [e])
  | _ => if notSet iter then (f iter).map fun e => (.val, [e]) else none
/-- the slots of a comprehension's own names -/
def ownOf (N : List Str) (scope : Scope) : List (Str × Nat) := scope.names.filterMap fun (x, k) => match k with
  | .local => (idx N x).map fun i => (x, i)
  | .cell => (idx N x).map fun i => (x, i)
  | _ => none
/-- isinstance(a, x), x a class of exceptions -/
def isaOf (c : Cfg) (f : Str) (args : List Expr) : Option (Expr × List (Str × Bool)) := match args with
  | [a, .Name x _] => if decide (f = "isinstance") && (c.G.free.contains "isinstance" && (glB c.sc "isinstance" && (glB c.sc x && (plainN' x && notStar a)))) then (c.G.isa.lookup x).map fun t => (a, t) else none
  | _ => none
def trK (f : Expr → Option E) : List Keyword → Option (List E)
  | [] => some []
  | ⟨_, e, _⟩ :: ks => match f e, trK f ks with
    | some a, some as => some (a :: as)
    | _, _ => none
def trE1 (f : Cfg → Expr → Option E) (n : Nat) (c : Cfg) (e : Expr) : Option E := match e with
    | .Constant (.int i) _ _ => some (.const (.int i))
    | .Constant (.bool b) _ _ => some (.const (.bl b))
    | .Constant .none _ _ => some (.const .non)
    | .Constant (.str x) _ _ => some (.const (.str x))
    | .Name x _ => if plainN x then
        (if visB c.sc x then (idx c.N x).map .var
        else if glB c.sc x then (match c.G.consts.lookup x with
          | some v => some (.const v)
          | none => if c.G.free.contains x then (tyNames.lookup x).map fun t => .const (.ty t) else none)
        else none)
      else none
    | .BinOp a op b _ => match bopOf op, f c a, f c b with
      | some op, some a, some b => some (.bin op a b)
      | _, _, _ => none
    | .UnaryOp .USub a _ => (f c a).map .neg
    | .UnaryOp .Not a _ => (f c a).map .not_
    | .Compare a [op] [b] _ => match copOf op, f c a, f c b, behindInMarks op b with
      | some op, some a, some b, false => some (.cmp op a b)
      | _, _, _, _ => none
    | .Compare a [op, op2] [b, d] _ => match copOf op, copOf op2, f c a, f c b, f c d, lastMarks [op, op2] [b, d] with
      | some op, some op2, some a, some b, some d, false => some (.chain op op2 a b d)
      | _, _, _, _, _, _ => none
    | .BoolOp op vs _ => trB (f c) op vs
    | .IfExp t a b _ => match f c t, f c a, f c b with
      | some t, some a, some b => some (.ite t a b)
      | _, _, _ => none
    | .Tuple es _ _ => (trL (f c) es).map .tup
    | .List es _ => (trL (f c) es).map .lst
    | .Subscript a (.Slice lo hi none _) _ => match f c a, trP (f c) lo, trP (f c) hi with
      | some a, some (l, p), some (h, q) => some (.slice a l h p q)
      | _, _, _ => none
    | .Subscript a b _ => match f c a, f c b, notSlice b with
      | some a, some b, true => some (.ix a b)
      | _, _, _ => none
    | .Call (.Name g _) args [] _ => match isaOf c g args with
      | some (a, tab) => (f c a).map fun a' => .isExc a' tab
      | none => match ziplOf c g args with
      | some (st, a, b) => (trL (f c) [a, b]).map fun es => .zipl st es
      | none => if plainN g && glB c.sc g then
        (match c.G.calls.lookup (g, args.length, []), args, trL (f c) args with
        | some sh, _ :: _, some es => some (.call g es sh)
        | none, _ :: _, some es => if c.G.free.contains g then (primOf g).map fun p => .prim p es else none
        | _, _, _ => none)
      else none
    | .Call (.Name g _) args kws _ => if plainN g && glB c.sc g && kws.all (·.arg.isSome) then
        (match c.G.calls.lookup (g, args.length, kws.filterMap (·.arg)), args, trL (f c) args, trK (f c) kws with
        | some sh, _ :: _, some es, some ks => some (.call g (es ++ ks) sh)
        | _, _, _, _ => none)
      else none
    | .Call (.Attribute o name apos) [] [] pos => match f c o, baseOk o && (apos.endLine == pos.line) with
      | some o, true => (match smOf name with
        | some p => some (.smeth p o [])
        | none => (lmOf name).map fun p => .lmeth p o [])
      | _, _ => none
    | .Call (.Attribute o name apos) (a :: as) [] pos => match f c o, trL (f c) (a :: as), baseOk o && (apos.endLine == pos.line) with
      | some o, some es, true => (match smOf name, as, es with
        | some p, [], [e] => some (.smeth p o [e])
        | none, _, _ => if (a :: as).length < 20 then (lmOf name).map fun p => .lmeth p o es else none
        | _, _, _ => none)
      | _, _, _ => none
    | .ListComp elt [⟨tg, iter, ifs, 0⟩] scope _ =>
      let own := ownOf c.N scope
      match trT (c.blk scope) n tg, trI (f c) c tg iter, (match ifs with
        | [] => some []
        | [t] => (f (c.blk scope) t).map fun t => [t]
        | _ => none), f (c.blk scope) elt with
      | some t, some (k, es), some ts, some e => if blkC c.N c.sc scope own && (slotsT t).all (fun i => (own.map (·.2)).contains i) then some (.lcomp e t k es ts (own.map (·.2))) else none
      | _, _, _, _ => none
    | .Dict keys values _ => match keys with
      | [] => match values with
        | [] => some .emp
        | _ => none
      | _ => match keys.mapM (fun k => match k with
          | some (.Constant (.str x) _ _) => some x
          | _ => none), trL (f c) values with
        | some ks, some es => if keys.length = values.length ∧ keys.length ≤ 15 then some (.dict ks es) else none
        | _, _ => none
    | .JoinedStr vs _ => match vs with
      | _ :: _ :: _ => (trL (f c) vs).map .fstr
      | _ => none
    | .FormattedValue a (-1) none _ => (f c a).map .fmt
    | _ => none
/-- what came later: exceptions with fields, calls without values -/
def trE2 (f : Cfg → Expr → Option E) (n : Nat) (c : Cfg) (e : Expr) : Option E := match e with
  | .Call (.Name x _) args kws _ => if plainN x && (glB c.sc x && kws.all (·.arg.isSome)) then
      (match c.G.mkx.lookup (x, args.length, kws.filterMap (·.arg)), trL (f c) args, trK (f c) kws with
      | some (kf, sh), some es, some ks => some (.mkx x kf (es ++ ks) sh)
      | _, _, _ => match args, kws with
        | [.Constant (.str _) _ _], [] => (c.G.rai.lookup x).map fun _ => .mkx x [] [] []
        | [], kws => (match c.G.calls.lookup (x, 0, kws.filterMap (·.arg)), trK (f c) kws with
          | some sh, some ks => some (.call x ks sh)
          | _, _ => none)
        | _, _ => none)
    else none
  | .Attribute o g _ => (match c.G.fld.lookup g, f c o, baseOk o with
    | some tab, some o', true => some (.fld o' g tab)
    | _, _, _ => none)
  | _ => none
def trE : Nat → Cfg → Expr → Option E
  | 0, _, _ => some .bad
  | n + 1, c, e => some ((match trE2 (trE n) n c e with
    | some a => some a
    | none => trE1 (trE n) n c e).getD .bad)

/-! ### what a place and its description agree on -/
structure Agr (X : Cx) (W : WX) (cl : Cl) (c : Cfg) : Prop where
  N : X.N = c.N
  nd : X.N.Nodup
  sc : X.env.scope = c.sc
  kind : X.env.scope.kind = .function
  calm : X.calm = true
  un : X.A.units + 65 < cLine
  gd : X.A.guards = some []
  tk : Takes X W
  fn : ∀ x, c.all = true → X.fn x = true
  con : ∀ x v, c.G.consts.lookup x = some v → ∃ u r, X.mg x = some u ∧ RelV r u ∧ ∀ m H, VR (Cx.wd X) m H v r
  fre : ∀ x, c.G.free.contains x = true → X.mg x = none
  cal : ∀ q sh, c.G.calls.lookup q = some sh → Callee X cl q.1 q.2.1 q.2.2 sh
  isa : ∀ x t, c.G.isa.lookup x = some t → IsaOk X.K X.mg x t
  rai : ∀ x b, c.G.rai.lookup x = some b → RaiOk X.K X.mg x
  rm : Room 2 X.A
  mkx : ∀ q r, c.G.mkx.lookup q = some r → MkOk X.K X.mg q.1 q.2.1 q.2.2 r.1 r.2
  fld : ∀ f t, c.G.fld.lookup f = some t → FldOk X.K X.mg f t
section
variable {X : Cx} {W : WX} {cl : Cl} {c : Cfg}
theorem Agr.blk (h : Agr X W cl c) (s : Shared) (H : Hp) (scope : Scope) (cc : List (Str × Addr)) (C : Addr) (fp : List Addr) (hk : scope.kind = .function) : Agr (X.blk s H scope (compEnvC scope cc C X.env) fp) W0 cl (c.blk scope) where
  N := h.N
  nd := h.nd
  sc := by
    show relabel scope X.env = relS scope c.sc
    rw [← h.sc]
    rfl
  kind := hk
  calm := h.calm
  un := h.un
  gd := h.gd
  tk := fun _ _ x => by
    obtain ⟨_, _, _, _, _, _, _, _, _, _, _, _, _, _, _, _, z⟩ := x
    exact z.elim
  fn := fun x e => by cases e
  con := h.con
  fre := h.fre
  cal := fun q sh e => ⟨(h.cal q sh e).ex⟩
  isa := h.isa
  rai := h.rai
  rm := h.rm
  mkx := h.mkx
  fld := h.fld
theorem idx_at : ∀ {N : List Str} {x : Str} {i : Nat}, idx N x = some i → N[i]? = some x
  | [], _, _, e => by cases e
  | y :: ys, x, i, e => by
    unfold idx at e
    split at e
    · cases e; subst_vars; rfl
    · rw [Option.map_eq_some_iff] at e
      obtain ⟨j, e1, rfl⟩ := e
      simpa using idx_at e1
theorem Agr.ix (h : Agr X W cl c) {x : Str} {i : Nat} (e : idx c.N x = some i) : X.N[i]? = some x := by rw [h.N]; exact idx_at e
theorem Agr.vis (h : Agr X W cl c) {x : Str} (e : visB c.sc x = true) : Vis X.env.scope x := by
  unfold visB at e
  rw [← h.sc] at e
  unfold Vis
  split at e <;> simp_all
theorem Agr.loc (h : Agr X W cl c) {x : Str} (e : locB c x = true) : Loc X.env.scope x ∧ (X.fn x = true ∨ X.env.scope.names.lookup x = some .local) := by
  unfold locB at e
  rw [← h.sc] at e
  split at e
  · rename_i q; exact ⟨.inl q, .inr q⟩
  · rename_i q; exact ⟨.inr q, .inl (h.fn x e)⟩
  · cases e
theorem Agr.gl (h : Agr X W cl c) {x : Str} (e : glB c.sc x = true) : Gl X x := by
  unfold glB at e
  rw [← h.sc] at e
  exact (of_decide_eq_true e : X.env.scope.names.lookup x = some .globalImplicit)
theorem star_cons {e : Expr} {es : List Expr} {env : Env} (h : notStar e = true) : starEach (e :: es) env = (false, eval e env) :: starEach es env := by
  cases e <;> first | rfl | cases h
theorem star_any {es : List Expr} {env : Env} {pos : Pos} : ∀ {es : List Expr}, es.all notStar = true → (backTo pos (starEach es env)).any (·.1) = false
  | [], _ => rfl
  | e :: es, h => by
    rw [List.all_cons, Bool.and_eq_true] at h
    rw [star_cons h.1]
    have ih := star_any (es := es) (env := env) (pos := pos) h.2
    unfold backTo at ih ⊢
    rw [List.map_cons, List.any_cons, ih]
    rfl
theorem plainIx_of {b : Expr} (h : notSlice b = true) : PlainIx b := fun o i => by
  cases b <;> first | rfl | cases h
theorem base_of {o : Expr} {f : Str} {env : Env} (h : baseOk o = true) : attributeBase o f env (eval o env) = eval o env := by
  unfold attributeBase
  cases o with
  | Call fn args kws pos =>
    cases fn with
    | Name id p =>
      cases args with
      | nil =>
        cases kws with
        | nil =>
          have h' : (id != "super") = true := h
          simp only [h', Bool.true_or, if_true]
          try exact bind_pure _
        | cons => rfl
      | cons => rfl
    | _ => rfl
  | _ => rfl
theorem bop_of {op : Operator} {o : Bop} (h : bopOf op = some o) : op = bopPy o := by
  cases op <;> cases h <;> rfl
theorem cop_of {op : CmpOp} {o : Cop} (h : copOf op = some o) : op = copPy o := by
  cases op <;> cases h <;> rfl
theorem folded_of {e : Expr} {env : Env} (h : notSet e = true) : ∀ x, foldedSetIterable e env x = pure x := fun x => by
  cases e <;> first | rfl | cases h
theorem swaps_of {e : Expr} {t : Option Expr} {l : Nat} {env : Env} (h : notComp e = true) : swapsWith e t l env = pure false := by
  cases e <;> first | rfl | cases h
theorem prim_of {x : Str} {p : Prim} (h : primOf x = some p) : (primPy p).1 = x := by
  have := List.find?_some h
  exact of_decide_eq_true this
theorem sm_of {x : Str} {p : Sm} (h : smOf x = some p) : (smPy p).1 = x := by
  have := List.find?_some h
  exact of_decide_eq_true this
theorem lm_of {x : Str} {p : Lm} (h : lmOf x = some p) : (lmPy p).1 = x := by
  have := List.find?_some h
  exact of_decide_eq_true this
theorem plain_of {x : Str} (h : plainN x = true) : (x == ("__debug__" : Str)) = false ∧ (x == ("__classdict__" : Str)) = false ∧ x ≠ "__name__" := by
  simp [plainN] at h
  simpa using ⟨h.1.1, h.1.2, h.2⟩
end
end Ps

set_option maxHeartbeats 1000000
/-! PsTr2: the translation is sound. -/
namespace Ps
open PySem L2
section
variable {X : Cx} {W : WX} {cl : Cl} {a b c d : Expr} {a' b' c' d' : E} {pos : Pos}
theorem t_chain {op op' : Cop} (hu : X.A.units + 65 < cLine) (hm : lastMarks [copPy op, copPy op'] [b, c] = false) (ha : SE X W cl a a') (hb : SE X W cl b b') (hc' : SE X W cl c c') : ST X W cl (.Compare a [copPy op, copPy op'] [b, c] pos) (.chain op op' a' b' c') := by
  refine (pt_chain (op_cop hu op) (op_cop hu op') ha hb hc' hm).weak fun σ H Q ⟨sl, m, cs, hs, hc, s⟩ => ?_
  unfold tst at s
  simp only [ev] at s
  have s' : Sat (Cx.wd X) (fun c d H' => W c d σ H') ((ev cl a' sl cs).bind fun x cs => (ev cl b' sl cs).bind fun y cs => (cmpop op x y cs).bind fun t cs => match t with
      | .bl true => (ev cl c' sl cs).bind fun z cs => (cmpop op' y z cs).bind fun z cs => .ok z cs
      | .bl false => .ok (.bl false) cs
      | _ => .stuck) m H (fun z _ _ H' => ∀ b, z = .bl b → Q b H') := by
    cases q : ev cl a' sl cs with
    | stuck => rw [q] at s; exact s.elim
    | ex x cs' => rw [q] at s; exact s
    | ok x cs1 =>
      rw [q] at s
      simp only [R.bind_ok] at s ⊢
      cases q2 : ev cl b' sl cs1 with
      | stuck => rw [q2] at s; exact s.elim
      | ex x cs' => rw [q2] at s; exact s
      | ok y cs2 =>
        rw [q2] at s
        simp only [R.bind_ok] at s ⊢
        cases q3 : cmpop op x y cs2 with
        | stuck => rw [q3] at s; exact s.elim
        | ex x cs' => rw [q3] at s; exact s
        | ok z cs3 =>
          rw [q3] at s
          simp only [R.bind_ok] at s ⊢
          obtain ⟨b, rfl⟩ := cmpop_bl q3
          cases b with
          | false =>
            intro m' H' e' c' b' eb
            cases eb
            exact s m' H' e' c'
          | true =>
            simp only at s ⊢
            cases q4 : ev cl c' sl cs3 with
            | stuck => rw [q4] at s; exact s.elim
            | ex x cs' => rw [q4] at s; exact s
            | ok w cs4 =>
              rw [q4] at s
              simp only [R.bind_ok] at s ⊢
              cases q5 : cmpop op' y w cs4 with
              | stuck => rw [q5] at s; exact s.elim
              | ex x cs' => rw [q5] at s; exact s
              | ok z cs5 =>
                rw [q5] at s
                simp only [R.bind_ok] at s ⊢
                obtain ⟨b, rfl⟩ := cmpop_bl q5
                intro m' H' e' c' b' eb
                cases eb
                exact s m' H' e' c'
  refine first hs hc s' fun x cs1 m1 H1 u e1 hs1 c1 r1 s1 => first hs1 c1 s1 fun y cs2 m2 H2 v e2 hs2 c2 r2 s2 => ?_
  refine cmp_then c2 (r1.ext e2) r2 s2 fun k cs3 m3 H3 e3 c3 s3 => ?_
  cases k with
  | true => exact first (hs2.ext e3) c3 s3 fun z cs4 m4 H4 w4 e4 hs4 c4 r4 s4 => cmp_then c4 ((r2.ext e3).ext e4) r4 s4 fun k cs5 m5 H5 e5 c5 s5 => s5 m5 H5 (Ext.refl _ _) c5 k rfl
  | false => exact ⟨false, rfl, s3 m3 H3 (Ext.refl _ _) c3 false rfl⟩
theorem pt_ifExp {tc ta tb : TT} (hc : PT X c tc) (ha : PT X a ta) (hb : PT X b tb) : PT X (.IfExp c a b pos) (fun σ H Q => tc σ H fun k H1 => if k = true then ta σ H1 Q else tb σ H1 Q) := by
  refine ⟨fun pins s σ H Q I h => ?_⟩
  refine PyProof.Rows.isTrue_IfExp (thn (hc.run pins s σ H _ I h) fun k s1 ⟨H1, I1, q1⟩ => ?_)
  cases k with
  | true => exact ha.run pins s1 σ H1 Q I1 q1
  | false => exact hb.run pins s1 σ H1 Q I1 q1
theorem t_ite (hc' : ST X W cl c c') (ha : ST X W cl a a') (hb : ST X W cl b b') : ST X W cl (.IfExp c a b pos) (.ite c' a' b') := by
  refine (pt_ifExp hc' ha hb).weak fun σ H Q ⟨sl, m, cs, hs, hc, s⟩ => ⟨sl, m, cs, hs, hc, ?_⟩
  unfold tst at s ⊢
  simp only [ev] at s
  cases q : ev cl c' sl cs with
  | stuck => rw [q] at s; exact s.elim
  | ex x cs' => rw [q] at s; exact s
  | ok x cs' =>
    rw [q] at s
    simp only [R.bind_ok] at s ⊢
    cases t : truth cs' x with
    | none => rw [t] at s; exact s.elim
    | some k =>
      rw [t] at s
      intro m1 H1 e1 c1
      cases k with
      | true => exact ⟨sl, m1, cs', hs.ext e1, c1, Sat.ext s e1⟩
      | false => exact ⟨sl, m1, cs', hs.ext e1, c1, Sat.ext s e1⟩
end

/-! ### targets, by their own reading -/
mutual
def gOf (K : PySem.W.Frag) : Tg → TG
  | .nm i => gName i
  | .tp ts => gSeq K ts.length (gsOf K ts)
def gsOf (K : PySem.W.Frag) : List Tg → TGs
  | [] => gNil
  | t :: ts => gCons (gOf K t) (gsOf K ts)
end
mutual
theorem gOf_ok {w : Wd} {m : MP} {H : Hp} : ∀ {t : Tg} {σ : L2.St} {sl : Slots} {v : Val} {u : V} {sl' : Slots} {Q : L2.St → Hp → Prop}, SloR w m H σ sl → AR w m H v u → asgT t v sl = some sl' → (∀ σ', SloR w m H σ' sl' → Only (slotsT t) σ σ' → Q σ' H) → gOf w.K t u σ H Q
  | .nm i, σ, sl, v, u, sl', Q, hs, r, e, k => by
    cases e
    exact k _ (hs.set r) ⟨by simp, fun j n => by rw [List.getElem?_set_ne (Ne.symm (by simpa [slotsT] using n))]⟩
  | .tp ts, σ, sl, v, u, sl', Q, hs, r, e, k => by
    simp only [asgT] at e
    split at e
    · rename_i xs q
      obtain ⟨a, ys, rfl, h1, h2⟩ := seqT_at q r
      exact ⟨a, ys, rfl, h1, by rw [← h2.length]; exact asgTs_len e, gsOf_ok hs h2 e fun σ' hs' o => k σ' hs' (o.mono fun i z => by simpa [slotsT] using z)⟩
    · cases e
theorem gsOf_ok {w : Wd} {m : MP} {H : Hp} : ∀ {ts : List Tg} {σ : L2.St} {sl : Slots} {vs : List Val} {us : List V} {sl' : Slots} {Q : L2.St → Hp → Prop}, SloR w m H σ sl → VRs w m H vs us → asgTs ts vs sl = some sl' → (∀ σ', SloR w m H σ' sl' → Only (slotsTs ts) σ σ' → Q σ' H) → gsOf w.K ts us σ H Q
  | [], σ, sl, vs, us, sl', Q, hs, r, e, k => by
    cases r with
    | nil => cases e; exact ⟨rfl, k σ hs (Only.refl _ _)⟩
    | cons => cases e
  | t :: ts, σ, sl, vs, us, sl', Q, hs, r, e, k => by
    cases r with
    | nil => cases e
    | cons r rs =>
      simp only [asgTs] at e
      split at e
      · rename_i sl1 e1
        exact ⟨_, _, rfl, gOf_ok hs (.val r) e1 fun σ1 hs1 o1 => gsOf_ok hs1 rs e fun σ2 hs2 o2 => k σ2 hs2 ((o1.mono fun i z => by simp [slotsTs, z]).trans (o2.mono fun i z => by simp [slotsTs, z]))⟩
      · cases e
end
theorem asg_cons {t : Expr} {ts : List Expr} {env : Env} (h : notStar t = true) : assignEach (t :: ts) env = (false, assign t env) :: assignEach ts env := by
  cases t <;> first | rfl | cases h
section
variable {X : Cx} {W : WX} {cl : Cl} {c : Cfg}
mutual
theorem trT_ok (A : Agr X W cl c) : ∀ (n : Nat) {tg : Expr} {t : Tg}, trT c n tg = some t → PG X tg (gOf X.K t)
  | 0, _, _, e => by simp [trT] at e
  | n + 1, tg, t, e => by
    cases tg with
    | Name x p =>
      simp only [trT] at e
      split at e
      · rename_i i e1 e2
        cases e
        exact pg_name A.nd (A.ix e1) (A.loc e2).1 (A.loc e2).2
      · cases e
    | Tuple es k p =>
      simp only [trT, Option.map_eq_some_iff] at e
      obtain ⟨ts, e1, rfl⟩ := e
      obtain ⟨h1, h2, h3⟩ := trTs_ok A n e1
      exact pg_seq A.calm h1 h2 h3
    | _ => simp [trT] at e
theorem trTs_ok (A : Agr X W cl c) : ∀ (n : Nat) {es : List Expr} {ts : List Tg}, trTs c n es = some ts → PGs X es (gsOf X.K ts) ∧ (assignEach es X.env).length = ts.length ∧ (assignEach es X.env).findIdx? (·.1) = none
  | n, [], ts, e => by
    cases n <;> (simp only [trTs] at e; cases e; exact ⟨pgs_nil, rfl, rfl⟩)
  | 0, _ :: _, _, e => by simp [trTs] at e
  | n + 1, tg :: tgs, ts, e => by
    simp only [trTs] at e
    split at e
    · rename_i t ts' e1 e2 e3
      cases e
      obtain ⟨h1, h2, h3⟩ := trTs_ok A n e2
      have hc := asg_cons (ts := tgs) (env := X.env) e3
      refine ⟨pgs_cons (trT_ok A n e1) h1 (by rw [hc]; rfl), by rw [hc]; exact congrArg Nat.succ h2, ?_⟩
      rw [hc, List.findIdx?_cons, h3]
      rfl
    · cases e
end
end
end Ps

set_option maxHeartbeats 2000000
/-! PsTr3: expressions translated are sound. -/
namespace Ps
open PySem L2
section
variable {X : Cx} {W : WX} {cl : Cl} {c : Cfg}
theorem trL_ok {f : Expr → Option E} (hf : ∀ e e', f e = some e' → SE X W cl e e') : ∀ {es : List Expr} {es' : List E}, trL f es = some es' → SA X W cl es es' ∧ es'.length = es.length ∧ es.all notStar = true
  | [], _, e => by cases e; exact ⟨a_nil, rfl, rfl⟩
  | x :: xs, es', e => by
    simp only [trL] at e
    split at e
    · rename_i a as e1 e2 e3
      cases e
      obtain ⟨h1, h2, h3⟩ := trL_ok hf e2
      exact ⟨a_cons (hf _ _ e1) h1 (star_cons e3), congrArg Nat.succ h2, by rw [List.all_cons, e3, h3]; rfl⟩
    · cases e
theorem trL_sj {f : Expr → Option E} (hf : ∀ e e', f e = some e' → SE X W cl e e') : ∀ {es : List Expr} {es' : List E}, trL f es = some es' → SJ X W cl es es'
  | [], _, e => by cases e; exact .nil
  | x :: xs, es', e => by
    simp only [trL] at e
    split at e
    · rename_i a as e1 e2 e3
      cases e
      exact .cons (hf _ _ e1) (trL_sj hf e2)
    · cases e
theorem trB_ok {f : Expr → Option E} (hf : ∀ e e', f e = some e' → SE X W cl e e' ∧ ST X W cl e e') {op : BoolOp} {pos : Pos} : ∀ {es : List Expr} {e' : E}, trB f op es = some e' → SE X W cl (.BoolOp op es pos) e' ∧ SW X W cl (.BoolOp op es pos) e'
  | [], _, e => by cases e
  | [x], e', e => by
    obtain ⟨h1, h2⟩ := hf x e' e
    refine ⟨s_one h1, ?_⟩
    cases op with
    | And => exact w_and1 h2
    | Or => exact w_or1 h2
  | x :: y :: ys, e', e => by
    simp only [trB] at e
    split at e
    · rename_i a b e1 e2
      cases e
      obtain ⟨h1, h2⟩ := hf x a e1
      obtain ⟨h3, h4⟩ := trB_ok hf e2
      cases op with
      | And => exact ⟨s_and h1 h3, w_and h2 h4⟩
      | Or => exact ⟨s_or h1 h3, w_or h2 h4⟩
    · cases e
theorem trP_ok {f : Expr → Option E} (hf : ∀ e e', f e = some e' → SE X W cl e e') {o : Option Expr} {l : E} {p : Bool} (e : trP f o = some (l, p)) : PartOk X W cl o l p := by
  cases o with
  | none => cases e; exact .none
  | some x =>
    simp only [trP, Option.map_eq_some_iff] at e
    obtain ⟨a, e1, e2⟩ := e
    cases e2
    exact .some (hf x _ e1)
theorem zipOf_ok {c : Cfg} {e a b : Expr} {st : Bool} (h : zipOf c e = some (st, a, b)) : ∃ p j kp kp' pos, e = .Call (.Name "zip" p) [a, b] (kwsZ st j kp kp') pos ∧ glB c.sc "zip" = true ∧ c.G.free.contains "zip" = true ∧ notStar a = true ∧ notStar b = true := by
  unfold zipOf at h
  split at h
  · rename_i x p u v kws pos
    split at h
    · rename_i hk
      simp only [Bool.and_eq_true, decide_eq_true_eq] at hk
      obtain ⟨rfl, k1, k2, k3, k4⟩ := hk
      split at h
      · cases h
        exact ⟨p, 0, pos, pos, pos, rfl, k1, k2, k3, k4⟩
      · rename_i k j kp kp'
        split at h
        · rename_i hs
          subst hs
          cases h
          exact ⟨p, _, _, _, pos, rfl, k1, k2, k3, k4⟩
        · cases h
      · cases h
    · cases h
  · cases h
theorem trI_ok (A : Agr X W cl c) {f : Expr → Option E} (hf : ∀ e e', f e = some e' → SE X W cl e e') {tg iter : Expr} {k : ItK} {es : List E} (e : trI f c tg iter = some (k, es)) : SI X W cl tg iter k es ∧ notSet iter = true := by
  unfold trI at e
  split at e
  · rename_i st a b q
    obtain ⟨p, j, kp, kp', pos, rfl, k1, k2, k3, k4⟩ := zipOf_ok q
    refine ⟨?_, rfl⟩
    split at e
    · cases e
    · rename_i ht
      rw [Option.map_eq_some_iff] at e
      obtain ⟨es', e1, e2⟩ := e
      cases e2
      obtain ⟨h1, h2, h3⟩ := trL_ok hf e1
      cases tg <;> first | (exact absurd rfl ht) | exact i_zip (A.gl k1) (A.fre _ k2) h1 (star_cons k3) (star_any (es := [b]) (by simp [k4]))
  split at e
  · rename_i x p args pos hz0
    clear hz0
    refine ⟨?_, rfl⟩
    have dflt : ∀ {k es}, (f (.Call (.Name x p) args [] pos)).map (fun e => (ItK.val, [e])) = some (k, es) → SI X W cl tg (.Call (.Name x p) args [] pos) k es := fun e => by
      rw [Option.map_eq_some_iff] at e
      obtain ⟨a, e1, e2⟩ := e
      cases e2
      exact i_val (hf _ a e1)
    split at e
    · rename_i hg
      rw [Bool.and_eq_true] at hg
      have g := A.gl hg.1
      have hm := A.fre x hg.2
      split at e
      · rename_i hx
        subst hx
        split at e
        · rename_i a
          rw [Option.map_eq_some_iff] at e
          obtain ⟨es', e1, e2⟩ := e
          cases e2
          obtain ⟨h1, h2, h3⟩ := trL_ok hf e1
          rw [List.all_cons, Bool.and_eq_true] at h3
          exact i_rng1 g hm h1 (star_cons h3.1)
        · rename_i a b
          rw [Option.map_eq_some_iff] at e
          obtain ⟨es', e1, e2⟩ := e
          cases e2
          obtain ⟨h1, h2, h3⟩ := trL_ok hf e1
          rw [List.all_cons, List.all_cons, Bool.and_eq_true, Bool.and_eq_true] at h3
          exact i_rng2 g hm h1 (by rw [star_cons h3.1, star_cons h3.2.1]; rfl) (star_cons h3.2.1)
        · cases e
      · split at e
        · rename_i hx
          subst hx
          split at e
          · rename_i a ht
            rw [Option.map_eq_some_iff] at e
            obtain ⟨es', e1, e2⟩ := e
            cases e2
            obtain ⟨h1, h2, h3⟩ := trL_ok hf e1
            rw [List.all_cons, Bool.and_eq_true] at h3
            cases tg <;> first | (cases ht; done) | exact i_enum g hm h1 (star_cons h3.1)
          · cases e
        · exact dflt e
    · exact dflt e
  · split at e
    · rename_i hs
      rw [Option.map_eq_some_iff] at e
      obtain ⟨a, e1, e2⟩ := e
      cases e2
      exact ⟨i_val (hf _ a e1), hs⟩
    · cases e
theorem keys_ok {f : Expr → Option E} {pos : Pos} (hf : ∀ e e', f e = some e' → SE X W cl e e') : ∀ {keys : List (Option Expr)} {values : List Expr} {ks : List Str} {es : List E}, keys.mapM (fun k => match k with
          | some (.Constant (.str x) _ _) => some x
          | _ => (none : Option Str)) = some ks → trL f values = some es → keys.length = values.length →
    PPs X pos keys values ((ks.map fun k => tC (.str k)).zip (es.map (TSem (Cx.wd X) W cl))) ∧ ks.length = es.length ∧ keys.all (·.isSome) = true
  | [], [], ks, es, e, e2, _ => by
    simp at e; subst e; cases e2
    exact ⟨pps_nil, rfl, rfl⟩
  | [], _ :: _, _, _, _, _, l => by cases l
  | _ :: _, [], _, _, _, _, l => by cases l
  | k :: keys, v :: values, ks, es, e, e2, l => by
    simp only [trL] at e2
    split at e2
    · rename_i a as e3 e4 e5
      cases e2
      rw [List.mapM_cons] at e
      simp only [Option.bind_eq_bind, Option.bind_eq_some_iff, Option.pure_def, Option.some.injEq] at e
      obtain ⟨x, e6, xs, e7, rfl⟩ := e
      obtain ⟨h1, h2, h3⟩ := keys_ok (pos := pos) hf e7 e4 (Nat.succ.inj l)
      split at e6
      · cases e6
        exact ⟨pps_cons pe_str (hf _ _ e3) h1, congrArg Nat.succ h2, by rw [List.all_cons, h3]; rfl⟩
      · cases e6
    · cases e2
end
theorem look_mem {α : Type} {x : Str} {v : α} : ∀ {l : List (Str × α)}, l.lookup x = some v → (x, v) ∈ l
  | [], h => by cases h
  | (y, u) :: r, h => by
    rw [List.lookup_cons] at h
    split at h
    · rename_i q
      cases h
      rw [eq_of_beq q]
      exact List.mem_cons_self
    · exact List.mem_cons_of_mem _ (look_mem h)
theorem ty_boot : ∀ p ∈ tyNames, bootBuiltins p.1 = some (.type p.2) := by
  intro p hp
  simp only [tyNames, List.mem_cons, List.not_mem_nil, or_false] at hp
  rcases hp with rfl | rfl | rfl | rfl | rfl | rfl <;> decide +kernel
theorem plainT {e : Expr} (h : (match e with | .UnaryOp .Not _ _ => false | .BoolOp _ _ _ => false | .IfExp _ _ _ _ => false | .Compare _ _ _ _ => false | _ => true) = true) {env : Env} : ∀ whole, isTrue e env whole = (do let v ← whole; standAt e.pos; holding [v] (truthy v)) := fun whole => by
  cases e with
  | UnaryOp op x p => cases op <;> first | rfl | cases h
  | BoolOp _ _ _ => cases h
  | IfExp _ _ _ _ => cases h
  | Compare _ _ _ _ => cases h
  | _ => rfl
theorem trK_ok {X : Cx} {W : WX} {cl : Cl} {f : Expr → Option E} (hf : ∀ e e', f e = some e' → SE X W cl e e') : ∀ {kws : List Keyword} {es' : List E}, trK f kws = some es' → SK X W cl kws es' ∧ es'.length = kws.length
  | [], _, e => by cases e; exact ⟨k_nil, rfl⟩
  | ⟨nm, x, kp⟩ :: xs, es', e => by
    simp only [trK] at e
    split at e
    · rename_i a as e1 e2
      cases e
      obtain ⟨h1, h2⟩ := trK_ok hf e2
      exact ⟨k_cons (hf _ _ e1) h1, congrArg Nat.succ h2⟩
    · cases e
theorem ziplOf_ok {c : Cfg} {g : Str} {args : List Expr} {a b : Expr} {st : Bool} (h : ziplOf c g args = some (st, a, b)) : g = "list" ∧ ∃ z, args = [z] ∧ glB c.sc "list" = true ∧ c.G.free.contains "list" = true ∧ ∃ p j kp kp' pos, z = .Call (.Name "zip" p) [a, b] (kwsZ st j kp kp') pos ∧ glB c.sc "zip" = true ∧ c.G.free.contains "zip" = true ∧ notStar a = true ∧ notStar b = true := by
  unfold ziplOf at h
  split at h
  · rename_i z
    split at h
    · rename_i hk
      simp only [Bool.and_eq_true, decide_eq_true_eq] at hk
      exact ⟨hk.1, z, rfl, hk.2.1, hk.2.2, zipOf_ok h⟩
    · cases h
  · cases h
theorem isaOf_ok {c : Cfg} {g : Str} {args : List Expr} {a : Expr} {tab : List (Str × Bool)} (h : isaOf c g args = some (a, tab)) : ∃ x p, args = [a, .Name x p] ∧ g = "isinstance" ∧ c.G.free.contains "isinstance" = true ∧ glB c.sc "isinstance" = true ∧ glB c.sc x = true ∧ plainN' x = true ∧ notStar a = true ∧ c.G.isa.lookup x = some tab := by
  unfold isaOf at h
  split at h
  · rename_i b x p
    split at h
    · rename_i hk
      simp only [Bool.and_eq_true, decide_eq_true_eq] at hk
      obtain ⟨k1, k2, k3, k4, k5, k6⟩ := hk
      rw [Option.map_eq_some_iff] at h
      obtain ⟨t, e1, e2⟩ := h
      cases e2
      exact ⟨x, p, rfl, k1, k2, k3, k4, k5, k6, e1⟩
    · cases h
  · cases h
theorem star_few {env : Env} {pos : Pos} : ∀ {es : List Expr}, es.all notStar = true → (backTo pos (starEach es env)).all (fun x => !x.1) = true
  | [], _ => rfl
  | e :: es, h => by
    rw [List.all_cons, Bool.and_eq_true] at h
    rw [star_cons h.1]
    have ih := star_few (env := env) (pos := pos) h.2
    unfold backTo at ih ⊢
    rw [List.map_cons, List.all_cons, ih]
    rfl
theorem trE1_ok (n : Nat) {f : Cfg → Expr → Option E} {X : Cx} {W : WX} {cl : Cl} {c : Cfg} {e : Expr} {e' : E} (ih : ∀ {X : Cx} {W : WX} {c : Cfg} {e : Expr} {e' : E}, Agr X W cl c → f c e = some e' → SE X W cl e e' ∧ ST X W cl e e') (A : Agr X W cl c) (h : trE1 f n c e = some e') : SE X W cl e e' ∧ ST X W cl e e' := by
    have iE : ∀ e e', f c e = some e' → SE X W cl e e' := fun e e' h => (ih A h).1
    have fin : ∀ {e : Expr} {e' : E}, SE X W cl e e' → (match e with | .UnaryOp .Not _ _ => false | .BoolOp _ _ _ => false | .IfExp _ _ _ _ => false | .Compare _ _ _ _ => false | _ => true) = true → SE X W cl e e' ∧ ST X W cl e e' := fun h p => ⟨h, t_val h (plainT p)⟩
    simp only [trE1] at h
    split at h
    · cases h; exact fin (s_const pe_int fun _ _ => .int _) rfl
    · cases h; exact fin (s_const pe_bl fun _ _ => .bl _) rfl
    · cases h; exact fin (s_const pe_non fun _ _ => .non) rfl
    · cases h; exact fin (s_const pe_str fun _ _ => .str _) rfl
    · rename_i x p
      split at h
      · rename_i hp
        obtain ⟨p1, p2, p3⟩ := plain_of hp
        split at h
        · rename_i hv
          rw [Option.map_eq_some_iff] at h
          obtain ⟨i, e1, rfl⟩ := h
          exact fin (s_var (A.ix e1) (A.vis hv) p1 p2) rfl
        · split at h
          · rename_i hg
            split at h
            · rename_i v q
              cases h
              obtain ⟨u, r, h1, h2, h3⟩ := A.con x v q
              exact fin (s_const (pe_glob (A.gl hg) h1 h2 p1) h3) rfl
            · split at h
              · rename_i hf
                rw [Option.map_eq_some_iff] at h
                obtain ⟨t, e1, rfl⟩ := h
                have hb : bootBuiltins x = some (.type t) := ty_boot (x, t) (look_mem e1)
                exact fin (s_const (pe_bltn (v := .ty t) (A.gl hg) (A.fre x hf) hb rfl p3 p1) fun _ _ => .ty _) rfl
              · cases h
          · cases h
      · cases h
    · rename_i a op b p
      split at h
      · rename_i op' a' b' e1 e2 e3
        cases h
        rw [bop_of e1]
        exact fin (s_bin (iE _ _ e2) (iE _ _ e3)) rfl
      · cases h
    · rename_i a p
      rw [Option.map_eq_some_iff] at h
      obtain ⟨a', e1, rfl⟩ := h
      exact fin (s_neg (iE _ _ e1)) rfl
    · rename_i a p
      rw [Option.map_eq_some_iff] at h
      obtain ⟨a', e1, rfl⟩ := h
      exact ⟨s_not (iE _ _ e1), t_not (ih A e1).2⟩
    · rename_i a op b p
      split at h
      · rename_i op' a' b' e1 e2 e3 e4
        cases h
        obtain rfl := cop_of e1
        exact ⟨s_cmp A.un e4 (iE _ _ e2) (iE _ _ e3), t_cmp A.un e4 (iE _ _ e2) (iE _ _ e3)⟩
      · cases h
    · rename_i a op op2 b d p
      split at h
      · rename_i o1 o2 a' b' d' e1 e2 e3 e4 e5 e6
        cases h
        obtain rfl := cop_of e1
        obtain rfl := cop_of e2
        exact ⟨s_chain A.un e6 (iE _ _ e3) (iE _ _ e4) (iE _ _ e5), t_chain A.un e6 (iE _ _ e3) (iE _ _ e4) (iE _ _ e5)⟩
      · cases h
    · rename_i op vs p
      obtain ⟨h1, h2⟩ := trB_ok (pos := p) (fun e e' h => ih A h) h
      exact ⟨h1, h2.pt⟩
    · rename_i t a b p
      split at h
      · rename_i t' a' b' e1 e2 e3
        cases h
        exact ⟨s_ite (ih A e1).2 (iE _ _ e2) (iE _ _ e3), t_ite (ih A e1).2 (ih A e2).2 (ih A e3).2⟩
      · cases h
    · rename_i es k p
      rw [Option.map_eq_some_iff] at h
      obtain ⟨es', e1, rfl⟩ := h
      exact fin (s_tup (trL_ok iE e1).1) rfl
    · rename_i es p
      rw [Option.map_eq_some_iff] at h
      obtain ⟨es', e1, rfl⟩ := h
      exact fin (s_lst (trL_ok iE e1).1) rfl
    · rename_i a lo hi p2 p
      split at h
      · rename_i a' l pl hh ph e1 e2 e3
        cases h
        exact fin (s_slice (iE _ _ e1) (trP_ok iE e2) (trP_ok iE e3)) rfl
      · cases h
    · rename_i a b p _
      split at h
      · rename_i a' b' e1 e2 e3
        cases h
        exact fin (s_ix A.un (plainIx_of e3) (iE _ _ e1) (iE _ _ e2)) rfl
      · cases h
    · rename_i gn p args pos
      split at h
      · rename_i a tab q
        rw [Option.map_eq_some_iff] at h
        obtain ⟨a', e1, rfl⟩ := h
        obtain ⟨x, px, rfl, rfl, k2, k3, k4, k5, k6, k7⟩ := isaOf_ok q
        exact fin (s_isExc (A.gl k3) (A.fre _ k2) (A.gl k4) k5 (A.isa x tab k7) (iE _ _ e1) (star_cons k6)) rfl
      split at h
      · rename_i st a b q
        rw [Option.map_eq_some_iff] at h
        obtain ⟨es', e1, rfl⟩ := h
        obtain ⟨rfl, z, rfl, g1, g2, p', j, kp, kp', pos', rfl, k1, k2, k3, k4⟩ := ziplOf_ok q
        obtain ⟨h1, h2, h3⟩ := trL_ok iE e1
        exact fin (s_zipl A.calm (A.gl g1) (A.fre _ g2) (A.gl k1) (A.fre _ k2) h1 (star_cons k3) (star_any (es := [b]) (by simp [k4])) rfl) rfl
      split at h
      · rename_i hg
        rw [Bool.and_eq_true] at hg
        obtain ⟨p1, p2, p3⟩ := plain_of hg.1
        have g := A.gl hg.2
        split at h
        · rename_i sh a as es q e1
          cases h
          obtain ⟨h1, h2, h3⟩ := trL_ok iE e1
          have h3' := h3
          rw [List.all_cons, Bool.and_eq_true] at h3
          exact fin (s_call A.tk (A.cal _ _ q) g h1 h2 p1 (star_cons h3.1) (star_any (es := []) h3.2)) rfl
        · rename_i a as es q e1
          split at h
          · rename_i hf
            rw [Option.map_eq_some_iff] at h
            obtain ⟨pr, e2, rfl⟩ := h
            obtain ⟨h1, h2, h3⟩ := trL_ok iE e1
            rw [List.all_cons, Bool.and_eq_true] at h3
            exact fin (s_prim A.calm A.gd A.un (prim_of e2) g (A.fre gn hf) h1 (star_cons h3.1) (star_any (es := []) h3.2)) rfl
          · cases h
        · cases h
      · cases h
    · rename_i gn p args kws pos _
      split at h
      · rename_i hg
        rw [Bool.and_eq_true, Bool.and_eq_true] at hg
        obtain ⟨p1, p2, p3⟩ := plain_of hg.1.1
        split at h
        · rename_i sh a as es ks e2 q e1
          cases h
          obtain ⟨h1, h2, h3⟩ := trL_ok iE e1
          obtain ⟨h4, h5⟩ := trK_ok iE e2
          have h3' := h3
          rw [List.all_cons, Bool.and_eq_true] at h3
          exact fin (s_callK A.tk (A.cal _ _ q) (A.gl hg.1.2) h1 h4 h2 h5 hg.2 p1 (star_cons h3.1) (star_any (es := []) h3')) rfl
        · cases h
      · cases h
    · rename_i o name apos pos
      split at h
      · rename_i o' e1 e3
        rw [Bool.and_eq_true] at e3
        split at h
        · rename_i p e2
          cases h
          exact fin (s_smeth0 (sm_of e2) (iE _ _ e1) (base_of e3.1) e3.2) rfl
        · rw [Option.map_eq_some_iff] at h
          obtain ⟨p, e2, rfl⟩ := h
          exact fin (s_lmeth0 (lm_of e2) (iE _ _ e1) (base_of e3.1) e3.2) rfl
      · cases h
    · rename_i o name apos a as pos
      split at h
      · rename_i o' es' e1 e2 e3
        rw [Bool.and_eq_true] at e3
        obtain ⟨h1, h2, h3⟩ := trL_ok iE e2
        have h3' := h3
        have hfew : (a :: as).length < 20 → ((backTo pos (starEach (a :: as) X.env)).all (fun x => !x.1) && (backToKw pos (keywordEach [] X.env)).all (fun x => x.1.isSome) && decide ((a :: as).length + ([] : List Keyword).length + (if ([] : List Keyword).isEmpty then 0 else 1) < 30)) = true := fun hl => by
          rw [star_few h3', decide_eq_true (show (a :: as).length + ([] : List Keyword).length + (if ([] : List Keyword).isEmpty then 0 else 1) < 30 by simp at hl ⊢; omega)]
          rfl
        rw [List.all_cons, Bool.and_eq_true] at h3
        split at h
        · rename_i p ee q1
          cases h
          have e4 : f c a = some ee := by
            simp only [trL] at e2
            split at e2
            · rename_i x xs g1 g2 g3
              cases g2
              cases e2
              exact g1
            · cases e2
          exact fin (s_smeth1 (sm_of q1) (iE _ _ e1) (iE _ _ e4) (star_cons h3.1) (base_of e3.1) e3.2) rfl
        · split at h
          · rename_i hl
            rw [Option.map_eq_some_iff] at h
            obtain ⟨p, e4, rfl⟩ := h
            exact fin (s_lmeth (lm_of e4) (iE _ _ e1) h1 (star_cons h3.1) (star_any (es := []) h3.2) (hfew hl) (base_of e3.1) e3.2) rfl
          · cases h
        · cases h
      · cases h
    · rename_i elt tg iter ifs scope pos
      split at h
      · rename_i t k es ts e2 q1 q2 q3 q4
        split at h
        · rename_i hb
          rw [Bool.and_eq_true] at hb
          cases h
          have B : BlkOk X.N X.env.scope scope (ownOf c.N scope) := by
            rw [A.N, A.sc]
            exact blkOk_by hb.1
          obtain ⟨i1, i2⟩ := trI_ok A iE q2
          have AB := fun s H C cc fp => A.blk s H scope cc C fp B.kind
          refine fin (s_lc A.calm A.nd i1 B ⟨gOf X.K t, fun s H C cc fp => trT_ok (AB s H C cc fp) n q1, fun m H σ sl v u sl' Q hs r e k => gOf_ok (w := Cx.wd X) hs r e k⟩ (fun i hi => ?_) (fun s H C cc fp => ?_) (fun s H C cc fp => (ih (AB s H C cc fp) q4).1) (folded_of i2)) rfl
          · have := List.all_eq_true.mp hb.2 i hi
            simpa using this
          · split at q3
            · cases q3; exact ts_nil
            · rename_i tt
              rw [Option.map_eq_some_iff] at q3
              obtain ⟨t', e1, rfl⟩ := q3
              exact ts_one (ih (AB s H C cc fp) e1).2
            · cases q3
        · cases h
      · cases h
    · rename_i keys values pos
      split at h
      · split at h
        · cases h; exact fin s_emp rfl
        · cases h
      · rename_i hne
        split at h
        · rename_i ks es e1 e2
          split at h
          · rename_i hl
            cases h
            obtain ⟨h1, h2, h3⟩ := keys_ok (pos := pos) iE e1 e2 hl.1
            exact fin (s_dict h1 h2 h3 hl.1 (fun z => hne z) hl.2) rfl
          · cases h
        · cases h
    · rename_i vs pos
      split at h
      · rw [Option.map_eq_some_iff] at h
        obtain ⟨es, e1, rfl⟩ := h
        exact fin (s_fstr (trL_sj iE e1)) rfl
      · cases h
    · rename_i a pos
      rw [Option.map_eq_some_iff] at h
      obtain ⟨a', e1, rfl⟩ := h
      exact fin (s_fmt (iE _ _ e1)) rfl
    · cases h
theorem plain_args {X : Cx} {pos : Pos} {args : List Expr} (h : args.all notStar = true) : Plain X.env pos args :=
  ⟨fun e es q => by subst q; rw [List.all_cons, Bool.and_eq_true] at h; exact star_cons h.1, star_any (es := []) h⟩
theorem trE2_ok (n : Nat) {f : Cfg → Expr → Option E} {X : Cx} {W : WX} {cl : Cl} {c : Cfg} {e : Expr} {e' : E} (ih : ∀ {X : Cx} {W : WX} {c : Cfg} {e : Expr} {e' : E}, Agr X W cl c → f c e = some e' → SE X W cl e e' ∧ ST X W cl e e') (A : Agr X W cl c) (h : trE2 f n c e = some e') : SE X W cl e e' ∧ ST X W cl e e' := by
  have iE : ∀ e e', f c e = some e' → SE X W cl e e' := fun e e' h => (ih A h).1
  have fin : ∀ {e : Expr} {e' : E}, SE X W cl e e' → (match e with | .UnaryOp .Not _ _ => false | .BoolOp _ _ _ => false | .IfExp _ _ _ _ => false | .Compare _ _ _ _ => false | _ => true) = true → SE X W cl e e' ∧ ST X W cl e e' := fun h p => ⟨h, t_val h (plainT p)⟩
  unfold trE2 at h
  split at h
  · rename_i x px args kws pos
    split at h
    · rename_i hg
      rw [Bool.and_eq_true, Bool.and_eq_true] at hg
      obtain ⟨p1, p2, p3⟩ := plain_of hg.1
      have g := A.gl hg.2.1
      split at h
      · rename_i kf sh es ks q e1 e2
        cases h
        obtain ⟨h1, h2, h3⟩ := trL_ok iE e1
        obtain ⟨h4, h5⟩ := trK_ok iE e2
        exact fin (s_mkx A.gd A.rm (A.mkx _ _ q) g p1 h1 h4 h2 h5 hg.2.2 (plain_args h3)) rfl
      · split at h
        · rw [Option.map_eq_some_iff] at h
          obtain ⟨b, e1, rfl⟩ := h
          exact fin (s_mk0 g p1 (A.rai x b e1)) rfl
        · split at h
          · rename_i sh ks q e2
            cases h
            obtain ⟨h4, h5⟩ := trK_ok iE e2
            exact fin (s_callA (args := []) (es' := []) A.tk (A.cal _ _ q) g p1 a_nil h4 rfl h5 hg.2.2 (plain_args rfl)) rfl
          · cases h
        · cases h
    · cases h
  · rename_i o gn pos
    split at h
    · rename_i tab o' q1 q2 q3
      cases h
      exact fin (s_fld (A.fld _ _ q1) (iE _ _ q2) (base_of q3)) rfl
    · cases h
  · cases h
theorem trE_ok : ∀ (n : Nat) {X : Cx} {W : WX} {cl : Cl} {c : Cfg} {e : Expr} {e' : E}, Agr X W cl c → trE n c e = some e' → SE X W cl e e' ∧ ST X W cl e e'
  | 0, _, _, _, _, _, _, _, h => by simp only [trE] at h; cases h; exact ⟨s_bad, t_bad⟩
  | n + 1, X, W, cl, c, e, e', A, h => by
    simp only [trE] at h
    cases q2 : trE2 (trE n) n c e with
    | some a => rw [q2] at h; cases h; exact trE2_ok n (fun A h => trE_ok n A h) A q2
    | none =>
      rw [q2] at h
      cases q : trE1 (trE n) n c e with
      | none => rw [q] at h; cases h; exact ⟨s_bad, t_bad⟩
      | some a => rw [q] at h; cases h; exact trE1_ok n (fun A h => trE_ok n A h) A q
end Ps

set_option maxHeartbeats 2000000
/-! PsTr4: statements, defs. -/
namespace Ps
open PySem L2
/-- a, b = x, y: the names that are stored from the right; none: as a tuple -/
def sw (sc : Scope) (ts vs : List Expr) : Option (Option (List Str)) :=
  if (!(ts.length == 2 || ts.length == 3) || vs.length != ts.length || ScopeKind.function != .function) = true then some none
  else if (vs.any fun | .Starred .. => true | _ => false) = true then some none
  else
    let names := ts.filterMap fun
      | .Name id pos => if (sc.names.lookup id == some .local && pos.line == (ts.head?.map (·.pos.line)).getD 0) = true then some id else none
      | _ => none
    if (names.length != ts.length || names.eraseDups.length != names.length) = true then some none
    else if vs.all (foldedForSure 8) = true then some none
    else if vs.all (constantsAlone 8) = true then none
    else some (some names)
theorem blockKind_fn {env : Env} (hk : env.scope.kind = .function) : env.blockKind = .function := by
  unfold Env.blockKind
  rw [hk]
  rfl
theorem sw_ok {env : Env} {ts vs : List Expr} {k k2 : Nat} {p p2 : Pos} {r : Option (List Str)} (hk : env.scope.kind = .function) (h : sw env.scope ts vs = some r) : swappedStores [.Tuple ts k p] (.Tuple vs k2 p2) env = pure r := by
  unfold swappedStores
  unfold sw at h
  simp only [blockKind_fn hk]
  show (if _ then _ else _ : Sem (Option (List Str))) = _
  split at h
  · rename_i h1
    cases h
    exact if_pos h1
  · rename_i h1
    refine (if_neg h1).trans ?_
    split at h
    · rename_i h2
      cases h
      exact if_pos h2
    · rename_i h2
      refine (if_neg h2).trans ?_
      simp only at h
      split at h
      · rename_i h3
        cases h
        exact if_pos h3
      · rename_i h3
        refine (if_neg h3).trans ?_
        split at h
        · rename_i h4
          cases h
          exact if_pos h4
        · rename_i h4
          refine (if_neg h4).trans ?_
          split at h
          · cases h
          · rename_i h5
            cases h
            exact if_neg h5
/-- name = [..] on one line: the list is stored within -/
def lcSw (sc : Scope) (x : Str) (py vp : Pos) (scope : Scope) : Bool := decide (sc.names.lookup x = some .local) && (py.line == vp.line) && !(scope.names.any fun (n, k) => n == x && (k == .local || k == .cell))
theorem lcSw_ok {env : Env} {x : Str} {py pos : Pos} {scope : Scope} {elt : Expr} {gs : List Comprehension} {l : Nat} (hk : env.scope.kind = .function) : swapsWith (.ListComp elt gs scope pos) (some (.Name x py)) l env = pure (lcSw env.scope x py pos scope) := by
  unfold swapsWith lcSw
  simp only [blockKind_fn hk, Expr.pos]
  show (pure _ : Sem Bool) = pure _
  congr 1
  have e2 : (env.kindOf x == some NameKind.local) = decide (env.scope.names.lookup x = some NameKind.local) := by
    show (env.scope.names.lookup x == some NameKind.local) = _
    by_cases q : env.scope.names.lookup x = some NameKind.local
    · rw [q]; rfl
    · rw [decide_eq_false q]; exact beq_eq_false_iff_ne.mpr q
  rw [e2, show (ScopeKind.function == ScopeKind.function) = true from rfl, Bool.true_and]
/-- names, one of them starred -/
def trStar (c : Cfg) : List Expr → Option (List Nat)
  | [] => some []
  | .Name x _ :: es => (match idx c.N x, locB c x, trStar c es with
    | some i, true, some is => some (i :: is)
    | _, _, _ => none)
  | .Starred (.Name x _) _ :: es => (match idx c.N x, locB c x, trStar c es with
    | some i, true, some is => some (i :: is)
    | _, _, _ => none)
  | _ => none
theorem trStar_ok {X : Cx} {W : WX} {cl : Cl} {c : Cfg} (A : Agr X W cl c) : ∀ {es : List Expr} {is : List Nat}, trStar c es = some is → PGs X es (gsOf X.K (is.map .nm)) ∧ (assignEach es X.env).length = is.length ∧ (assignEach es X.env).findIdx? (·.1) = es.findIdx? fun t => !notStar t
  | [], is, e => by cases e; exact ⟨pgs_nil, rfl, rfl⟩
  | e :: es, is, h => by
    cases e with
    | Name x p =>
      simp only [trStar] at h
      split at h
      · rename_i i is' q1 q2 q3
        cases h
        obtain ⟨h1, h2, h3⟩ := trStar_ok A q3
        have hc := asg_cons (t := .Name x p) (ts := es) (env := X.env) rfl
        refine ⟨pgs_cons (pg_name A.nd (A.ix q1) (A.loc q2).1 (A.loc q2).2) h1 (by rw [hc]; rfl), by rw [hc]; exact congrArg Nat.succ h2, ?_⟩
        rw [hc, List.findIdx?_cons, List.findIdx?_cons, h3]
        rfl
      · cases h
    | Starred t p =>
      cases t with
      | Name x p2 =>
        simp only [trStar] at h
        split at h
        · rename_i i is' q1 q2 q3
          cases h
          obtain ⟨h1, h2, h3⟩ := trStar_ok A q3
          have hc : assignEach (.Starred (.Name x p2) p :: es) X.env = (true, assign (.Name x p2) X.env) :: assignEach es X.env := rfl
          have hp : PGs X (.Name x p2 :: es) (gsOf X.K ((i :: is').map .nm)) := pgs_cons (pg_name A.nd (A.ix q1) (A.loc q2).1 (A.loc q2).2) h1 rfl
          refine ⟨⟨fun pins s σ H vs us Q I r h => hp.run pins s σ H vs us Q I r h⟩, by rw [hc]; exact congrArg Nat.succ h2, ?_⟩
          rw [hc, List.findIdx?_cons, List.findIdx?_cons, h3]
          rfl
        · cases h
      | _ => simp [trStar] at h
    | _ => simp [trStar] at h
/-- atoms: what an except suite may say -/
def trA (c : Cfg) : Expr → Option E
  | .Constant (.int i) _ _ => some (.const (.int i))
  | .Constant (.bool b) _ _ => some (.const (.bl b))
  | .Constant .none _ _ => some (.const .non)
  | .Constant (.str x) _ _ => some (.const (.str x))
  | .Name x _ => if plainN x && visB c.sc x then (idx c.N x).map .var else none
  | _ => none
def isAtom : Expr → Bool
  | .Constant _ _ _ => true
  | .Name _ _ => true
  | _ => false
def trSu (c : Cfg) : Stmt → Option S
  | .Assign [.Name x _] e _ => (match idx c.N x, locB c x, trA c e, isAtom e with
    | some i, true, some e', true => some (.asg (.nm i) e')
    | _, _, _, _ => none)
  | .Return (some e) _ => (trA c e).map .ret
  | _ => none
/-- the body of a try -/
def trTry (f : Expr → Option E) (c : Cfg) : Stmt → Option S
  | .Assign [.Name x _] e _ => (match idx c.N x, locB c x, f e, notComp e with
    | some i, true, some e', true => some (.asg (.nm i) e')
    | _, _, _, _ => none)
  | .Expr e _ => if notComp e then (f e).map .expr else none
  | _ => none
def notList : Expr → Bool
  | .List _ _ => false
  | _ => true
mutual
def trS : Nat → Cfg → Stmt → Option S
  | 0, _, _ => some .bad
  | n + 1, c, s => some (((match s with
    | .Return (some e) _ => (trE n c e).map .ret
    | .Return none _ => some (.ret (.const .non))
    | .Pass _ => some .pass
    | .Break _ => some .brk
    | .Continue _ => some .cont
    | .Expr e _ => if notComp e then (trE n c e).map .expr else none
    | .Assign [.Name x _] e _ => match idx c.N x, locB c x, trE n c e with
      | some i, true, some e' => (match e with
        | .ListComp _ [⟨_, _, _, 0⟩] _ _ => some (.asg (.nm i) e')
        | .List es _ => if c.mu.contains x then (trL (trE n c) es).map fun es' => .asg (.nm i) (.own (.lst es')) else some (.asg (.nm i) e')
        | e => if notComp e && notList e then some (.asg (.nm i) e') else none)
      | _, _, _ => none
    | .Raise (some (.Call (.Name x _) [.Constant (.str _) _ _] [] _)) none _ => match c.G.rai.lookup x, glB c.sc x && plainN' x with
      | some _, true => some (.rais x [] [] [])
      | _, _ => none
    | .Raise (some (.Call (.Name x _) args kws _)) none _ => match c.G.mkx.lookup (x, args.length, kws.filterMap (·.arg)), trL (trE n c) args, trK (trE n c) kws, plainN x && (glB c.sc x && kws.all (·.arg.isSome)) with
      | some (kf, sh), some es, some ks, true => some (.rais x kf (es ++ ks) sh)
      | _, _, _, _ => none
    | .Try [st] [.ExceptHandler (some (.Name x _)) (some n') [su] _] [] [] _ => match c.G.isa.lookup x, glB c.sc x && plainN' x, trTry (trE n c) c st, trSu c su, idx c.N n', decide (c.sc.names.lookup n' = some .local) with
      | some tab, true, some st', some su', some i, true => some (.tryA st' tab (some i) su')
      | _, _, _, _, _, _ => none
    | .Assign [.Tuple ts k p] (.Tuple vs _ _) _ => match sw c.sc ts vs with
      | some none => (match trT c n (.Tuple ts k p), (trL (trE n c) vs) with
        | some t, some es => some (.asg t (.tup es))
        | _, _ => none)
      | some (some _) => (match ts, vs with
        | [.Name x _, .Name y _], [a, b] => (match idx c.N x, idx c.N y, trL (trE n c) [a, b] with
          | some i, some j, some es => if i ≠ j ∧ c.sc.names.lookup x = some .local ∧ c.sc.names.lookup y = some .local ∧ sw c.sc ts vs = some (some [x, y]) then some (.par [i, j] es) else none
          | _, _, _ => none)
        | [.Name x _, .Name y _, .Name z _], [a, b, d] => (match idx c.N x, idx c.N y, idx c.N z, trL (trE n c) [a, b, d] with
          | some i, some j, some l, some es => if i ≠ j ∧ i ≠ l ∧ j ≠ l ∧ c.sc.names.lookup x = some .local ∧ c.sc.names.lookup y = some .local ∧ c.sc.names.lookup z = some .local ∧ sw c.sc ts vs = some (some [x, y, z]) then some (.par [i, j, l] es) else none
          | _, _, _, _ => none)
        | _, _ => none)
      | none => none
    | .Assign [.Tuple ts k p] e _ => if ts.any (fun t => !notStar t) then (match trStar c ts, trE n c e, notTuple e, ts.findIdx? (fun t => !notStar t) with
        | some is, some e', true, some i => some (.star is i e')
        | _, _, _, _ => none)
      else match trT c n (.Tuple ts k p), trE n c e, notTuple e with
      | some t, some e', true => some (.asg t e')
      | _, _, _ => none
    | .Assign [.Subscript o i _] v _ => match trE n c o, trE n c i, trE n c v, notComp v && notSlice i with
      | some o, some i, some v, true => some (.sub o i v)
      | _, _, _, _ => none
    | .If t a b _ => match trE n c t, trSs n c a, trSs n c b with
      | some t, some a, some b => some (.ite t a b)
      | _, _, _ => none
    | .For tg iter body [] _ => match trT c n tg, trI (trE n c) c tg iter, trSs n c body with
      | some t, some (k, es), some b => some (.for_ t k es b)
      | _, _, _ => none
    | .While t body [] _ => match trE n c t, trSs n c body with
      | some t, some b => some (.while_ t b)
      | _, _ => none
    | _ => none) : Option S).getD .bad)
def trSs : Nat → Cfg → List Stmt → Option (List S)
  | 0, _, _ => none
  | _ + 1, _, [] => some []
  | n + 1, c, s :: ss => match trS n c s, trSs n c ss with
    | some a, some as => some (a :: as)
    | _, _ => none
end
section
variable {X : Cx} {W : WX} {cl : Cl}
/-- a place in a def's body -/
structure AgrS (X : Cx) (W : WX) (cl : Cl) (c : Cfg) : Prop extends Agr X W cl c where
  po : PassesOwn (model X.prog X.w) X.A X.env X.xe
  ex0 : X.ex = []
  stk : X.stack = X.env :: X.outer
  frm : X.env.frame = some X.env.locals
theorem trA_ok {c : Cfg} {X : Cx} {W : WX} (hN : X.N = c.N) (hsc : X.env.scope = c.sc) {e : Expr} {e' : E} (h : trA c e = some e') : SE X W cl e e' := by
  unfold trA at h
  split at h
  · cases h; exact s_const pe_int fun _ _ => .int _
  · cases h; exact s_const pe_bl fun _ _ => .bl _
  · cases h; exact s_const pe_non fun _ _ => .non
  · cases h; exact s_const pe_str fun _ _ => .str _
  · rename_i x p
    split at h
    · rename_i hk
      rw [Bool.and_eq_true] at hk
      obtain ⟨p1, p2, p3⟩ := plain_of hk.1
      rw [Option.map_eq_some_iff] at h
      obtain ⟨i, e1, rfl⟩ := h
      refine s_var (by rw [hN]; exact idx_at e1) ?_ p1 p2
      have e := hk.2
      unfold visB at e
      rw [← hsc] at e
      unfold Vis
      split at e <;> simp_all
    · cases h
  · cases h
theorem loc_of {c : Cfg} {X : Cx} (hsc : X.env.scope = c.sc) (fn : ∀ x, c.all = true → X.fn x = true) {x : Str} (e : locB c x = true) : Loc X.env.scope x ∧ (X.fn x = true ∨ X.env.scope.names.lookup x = some .local) := by
  unfold locB at e
  rw [← hsc] at e
  split at e
  · rename_i q; exact ⟨.inl q, .inr q⟩
  · rename_i q; exact ⟨.inr q, .inl (fn x e)⟩
  · cases e
theorem trSu_ok {c : Cfg} {X : Cx} {W : WX} (hN : X.N = c.N) (nd : X.N.Nodup) (hsc : X.env.scope = c.sc) (fn : ∀ x, c.all = true → X.fn x = true) {s : Stmt} {s' : S} (h : trSu c s = some s') : SS X W cl s s' := by
  unfold trSu at h
  split at h
  · rename_i x px e pos
    split at h
    · rename_i i e' e1 e2 e3 e4
      cases h
      obtain ⟨l1, l2⟩ := loc_of hsc fn e2
      exact s_set nd (by rw [hN]; exact idx_at e1) l1 l2 (trA_ok hN hsc e3) (by cases e <;> first | rfl | cases e4)
    · cases h
  · rw [Option.map_eq_some_iff] at h
    obtain ⟨e', e1, rfl⟩ := h
    exact s_ret (trA_ok hN hsc e1)
  · cases h
theorem trTry_ok {c : Cfg} {X : Cx} {W : WX} (A : Agr X W cl c) {f : Expr → Option E} (hf : ∀ e e', f e = some e' → SE X W cl e e') {s : Stmt} {s' : S} (h : trTry f c s = some s') : SS1 X W cl s s' := by
  unfold trTry at h
  split at h
  · rename_i x px e pos
    split at h
    · rename_i i e' e1 e2 e3 e4
      cases h
      exact s1_set A.nd (A.ix e1) (A.loc e2).1 (A.loc e2).2 (hf _ _ e3) (swaps_of e4)
    · cases h
  · split at h
    · rename_i hc
      rw [Option.map_eq_some_iff] at h
      obtain ⟨e', e1, rfl⟩ := h
      exact s1_expr (hf _ _ e1) (swaps_of hc)
    · cases h
  · cases h
theorem Agr.tr {c : Cfg} {X : Cx} {W W' : WX} (A : Agr X W cl c) {pn : List (Addr × Obj)} {xe : Value → Shared → Prop} (tk : Takes (X.tr pn xe) W') : Agr (X.tr pn xe) W' cl c :=
  ⟨A.N, A.nd, A.sc, A.kind, A.calm, A.un, A.gd, tk, A.fn, A.con, A.fre, fun q sh e => ⟨(A.cal q sh e).ex⟩, A.isa, A.rai, A.rm, A.mkx, A.fld⟩
theorem ss_badA {s : Stmt} {i : Nat} : SS X W cl s (.asg (.nm i) .bad) := ⟨fun pins s σ H Q I ⟨_, _, _, _, _, z⟩ => z.elim⟩
theorem or_bad {s : Stmt} {r : Option S} (h : ∀ s', r = some s' → SS X W cl s s') : SS X W cl s (r.getD .bad) := by
  cases r with
  | none => exact ss_bad
  | some a => exact h a rfl
mutual
theorem trS_ok : ∀ (n : Nat) {c : Cfg} {s : Stmt} {s' : S}, AgrS X W cl c → trS n c s = some s' → SS X W cl s s'
  | 0, _, _, _, _, h => by simp only [trS] at h; cases h; exact ss_bad
  | n + 1, c, s, s', A, h0 => by
    have iE : ∀ e e', trE n c e = some e' → SE X W cl e e' := fun e e' h => (trE_ok n A.toAgr h).1
    have iT : ∀ e e', trE n c e = some e' → ST X W cl e e' := fun e e' h => (trE_ok n A.toAgr h).2
    simp only [trS] at h0
    have h0 := Option.some.inj h0
    subst h0
    refine or_bad fun s' h => ?_
    split at h
    · rw [Option.map_eq_some_iff] at h
      obtain ⟨e', e1, rfl⟩ := h
      exact s_ret (iE _ _ e1)
    · cases h; exact s_retN
    · cases h; exact s_pass
    · cases h; exact s_brk
    · cases h; exact s_cont
    · split at h
      · rename_i hc
        rw [Option.map_eq_some_iff] at h
        obtain ⟨e', e1, rfl⟩ := h
        exact s_expr (iE _ _ e1) (swaps_of hc)
      · cases h
    · rename_i x px e pos
      split at h
      · rename_i i e' e1 e2 e3
        split at h
        · rename_i elt tg iter ifs scope lp
          cases h
          cases q : lcSw X.env.scope x px lp scope with
          | false => exact s_set A.nd (A.ix e1) (A.loc e2).1 (A.loc e2).2 (iE _ _ e3) (by rw [lcSw_ok A.kind, q])
          | true =>
            have hsw := lcSw_ok (x := x) (py := px) (pos := lp) (scope := scope) (elt := elt) (gs := [⟨tg, iter, ifs, 0⟩]) (l := pos.line) A.kind
            rw [q] at hsw
            cases n with
            | zero => simp only [trE] at e3; cases e3; exact ss_badA
            | succ n =>
              have iE' : ∀ e e', trE n c e = some e' → SE X W cl e e' := fun e e' h => (trE_ok n A.toAgr h).1
              have z2 : trE2 (trE n) n c (.ListComp elt [⟨tg, iter, ifs, 0⟩] scope lp) = none := rfl
              simp only [trE, z2] at e3
              cases q0 : trE1 (trE n) n c (.ListComp elt [⟨tg, iter, ifs, 0⟩] scope lp) with
              | none => rw [q0] at e3; cases e3; exact ss_badA
              | some e0 =>
              rw [q0] at e3
              have e3 := Option.some.inj e3
              have e3 : some e0 = some e' := congrArg some e3
              rw [← q0] at e3
              simp only [trE1] at e3
              split at e3
              · rename_i t k es ts e2' q1 q2 q3 q4
                split at e3
                · rename_i hb
                  rw [Bool.and_eq_true] at hb
                  cases e3
                  have B : BlkOk X.N X.env.scope scope (ownOf c.N scope) := by
                    rw [A.N, A.sc]
                    exact blkOk_by hb.1
                  obtain ⟨i1, i2⟩ := trI_ok A.toAgr iE' q2
                  have AB := fun s H C cc fp => A.toAgr.blk s H scope cc C fp B.kind
                  have hyl : X.env.scope.names.lookup x = some .local := by
                    unfold lcSw at q
                    simp only [Bool.and_eq_true] at q
                    exact of_decide_eq_true q.1.1
                  refine s_setLc A.calm A.nd (A.ix e1) hyl hsw i1 B ⟨gOf X.K t, fun s H C cc fp => trT_ok (AB s H C cc fp) n q1, fun m H σ sl v u sl' Q hs r e k => gOf_ok (w := Cx.wd X) hs r e k⟩ (fun i hi => ?_) (fun s H C cc fp => ?_) (fun s H C cc fp => (trE_ok n (AB s H C cc fp) q4).1) (folded_of i2)
                  · have := List.all_eq_true.mp hb.2 i hi
                    simpa using this
                  · split at q3
                    · cases q3; exact ts_nil
                    · rename_i tt
                      rw [Option.map_eq_some_iff] at q3
                      obtain ⟨t', e1, rfl⟩ := q3
                      exact ts_one (trE_ok n (AB s H C cc fp) e1).2
                    · cases q3
                · cases e3
              · cases e3
        · rename_i es lp
          split at h
          · rw [Option.map_eq_some_iff] at h
            obtain ⟨es', q1, rfl⟩ := h
            exact s_set A.nd (A.ix e1) (A.loc e2).1 (A.loc e2).2 (s_ownLst (trL_ok iE q1).1) rfl
          · cases h
            exact s_set A.nd (A.ix e1) (A.loc e2).1 (A.loc e2).2 (iE _ _ e3) rfl
        · split at h
          · rename_i hc
            rw [Bool.and_eq_true] at hc
            cases h
            exact s_set A.nd (A.ix e1) (A.loc e2).1 (A.loc e2).2 (iE _ _ e3) (swaps_of hc.1)
          · cases h
      · cases h
    · rename_i x p t j p2 p3 pos
      split at h
      · rename_i b e1 e2
        cases h
        rw [Bool.and_eq_true] at e2
        have hp' : (x == ("__debug__" : Str)) = false := by
          have := e2.2
          simp [plainN'] at this
          simpa using this.1
        exact s_raise A.calm A.tk (A.gl e2.1) hp' (A.rai x b e1)
      · cases h
    · rename_i x px args kws p3 pos _
      split at h
      · rename_i kf sh es ks q e1 e2 e3
        cases h
        rw [Bool.and_eq_true, Bool.and_eq_true] at e3
        obtain ⟨p1, p2, p3⟩ := plain_of e3.1
        obtain ⟨h1, h2, h3⟩ := trL_ok iE e1
        obtain ⟨h4, h5⟩ := trK_ok iE e2
        exact s_rais A.calm A.tk A.gd A.rm (A.mkx _ _ q) (A.gl e3.2.1) p1 h1 h4 h2 h5 e3.2.2 (plain_args h3)
      · cases h
    · rename_i st x xp n' su hp pos
      split at h
      · rename_i tab st' su' i q1 q2 q3 q4 q5 q6
        cases h
        rw [Bool.and_eq_true] at q2
        refine s_tryA A.ex0 A.stk A.frm A.nd (A.ix q5) (by rw [A.sc]; exact of_decide_eq_true q6) (A.gl q2.1) q2.2 A.tk (A.isa x tab q1) (fun W' pn xe t po => ?_) fun a pn => ?_
        · exact trTry_ok (A.toAgr.tr t) (fun e e' h => (trE_ok n (A.toAgr.tr t) h).1) q3
        · exact trSu_ok (X := X.suite a pn) (W := W0) A.N A.nd A.sc A.fn q4
      · cases h
    · rename_i ts k p vs k2 p2 pos
      have hk := A.kind
      split at h
      · rename_i hw
        rw [← A.sc] at hw
        split at h
        · rename_i t es q1 q2
          cases h
          exact s_asg ⟨gOf X.K t, trT_ok A.toAgr n q1, fun m H σ sl v u sl' Q hs r e k => gOf_ok (w := Cx.wd X) hs r e k⟩ (s_tup (trL_ok iE q2).1) rfl (sw_ok hk hw) rfl
        · cases h
      · rename_i nm hw
        split at h
        · rename_i x px y py a b
          split at h
          · rename_i i j es q1 q2 q3
            split at h
            · rename_i hh
              cases h
              obtain ⟨h1, h2, h3, h4⟩ := hh
              rw [← A.sc] at h2 h3 h4
              exact s_par2 A.calm A.nd (A.ix q1) (A.ix q2) h1 h2 h3 (trL_ok iE q3).1 (sw_ok hk h4) rfl
            · cases h
          · cases h
        · rename_i x px y py z pz a b d
          split at h
          · rename_i i j l es q1 q2 q3 q4
            split at h
            · rename_i hh
              cases h
              obtain ⟨h1, h2, h3, h4, h5, h6, h7⟩ := hh
              rw [← A.sc] at h4 h5 h6 h7
              exact s_par3 A.calm A.nd (A.ix q1) (A.ix q2) (A.ix q3) h1 h2 h3 h4 h5 h6 (trL_ok iE q4).1 (sw_ok hk h7) rfl
            · cases h
          · cases h
        · cases h
      · cases h
    · rename_i ts k p e pos _
      split at h
      · split at h
        · rename_i is e' i q1 q2 q3 q4
          cases h
          obtain ⟨h1, h2, h3⟩ := trStar_ok A.toAgr q1
          refine s_star A.calm h1 (fun m H σ sl vs us sl' Q hs r e k => gsOf_ok (w := Cx.wd X) hs r e fun σ' hs' _ => k σ' hs') h2 (h3.trans q4) (iE _ _ q2) (show swapsWith e (some (.Tuple ts k p)) pos.line X.env = pure false by cases e <;> rfl) ?_
          cases e <;> first | rfl | cases q3
        · cases h
      split at h
      · rename_i t e' q1 q2 q3
        cases h
        refine s_asg ⟨gOf X.K t, trT_ok A.toAgr n q1, fun m H σ sl v u sl' Q hs r e k => gOf_ok (w := Cx.wd X) hs r e k⟩ (iE _ _ q2) (show swapsWith e (some (.Tuple ts k p)) pos.line X.env = pure false by cases e <;> rfl) ?_ rfl
        cases e <;> first | rfl | cases q3
      · cases h
    · rename_i o i pi v pos
      split at h
      · rename_i o' i' v' q1 q2 q3 q4
        cases h
        rw [Bool.and_eq_true] at q4
        exact s_sub A.un (iE _ _ q1) (iE _ _ q2) (iE _ _ q3) (swaps_of q4.1)
      · cases h
    · rename_i t a b pos
      split at h
      · rename_i t' a' b' q1 q2 q3
        cases h
        exact s_if (iT _ _ q1) (trSs_ok n A q2) (trSs_ok n A q3)
      · cases h
    · rename_i tg iter body pos
      split at h
      · rename_i t k es b q1 q2 q3
        cases h
        obtain ⟨i1, i2⟩ := trI_ok A.toAgr iE q2
        exact s_for A.po A.calm i1 ⟨gOf X.K t, trT_ok A.toAgr n q1, fun m H σ sl v u sl' Q hs r e k => gOf_ok (w := Cx.wd X) hs r e k⟩ (trSs_ok n A q3) (folded_of i2)
      · cases h
    · rename_i t body pos
      split at h
      · rename_i t' b q1 q2
        cases h
        exact s_while A.po (iT _ _ q1) (trSs_ok n A q2)
      · cases h
    · cases h
theorem trSs_ok : ∀ (n : Nat) {c : Cfg} {s : List Stmt} {s' : List S}, AgrS X W cl c → trSs n c s = some s' → SSs X W cl s s'
  | 0, _, _, _, _, h => by simp only [trSs] at h; cases h
  | n + 1, c, [], s', A, h => by simp [trSs] at h; subst h; exact ss_nil
  | n + 1, c, s :: ss, s', A, h => by
    simp only [trSs] at h
    split at h
    · rename_i a as q1 q2
      cases h
      exact ss_cons (trS_ok n A q1) (trSs_ok n A q2)
    · cases h
end
end
end Ps

set_option maxHeartbeats 2000000
/-! PsProg: a program's defs, all at once. -/
namespace Ps
open PySem L2
/-- a def of the program -/
structure PD where
  f : Str
  N : List Str
  ps : List Str
  params : Arguments
  body : List Stmt
  scope : Scope
  mu : List Str := []
/-- how a call's values come to the parameters -/
def BindOk (w : Wd) (fd : FuncData) (ps : List Str) (n : Nat) (ks : List Str) (sh : List (Nat ⊕ Val)) : Prop :=
  ∃ (g : List Value → List Value → List Value) (gV : List V → List V → List V), KBn w.K fd ps n ks g gV ∧
    ∀ m H vs us zs ws vs', ARs w m H vs us → ARs w m H zs ws → us.length = n → ws.length = ks.length → shape sh (vs ++ zs) = some vs' → ARs w m H vs' (gV us ws) ∧ (gV us ws).length = ps.length
theorem start_slo {w : Wd} {m : MP} {H : Hp} {vs : List Val} {us : List V} {N : List Str} {n : Nat} (r : ARs w m H vs us) (hn : vs.length = n) : SloR w m H (start N us) (vs.map some ++ List.replicate (N.length - n) none) := by
  have hl := r.length
  refine ⟨by simp [L2.start, hl, ← hn], fun i v q => ?_⟩
  have get : ∀ {vs : List Val} {us : List V}, ARs w m H vs us → ∀ {i : Nat} {v : Val}, vs[i]? = some v → ∃ u, us[i]? = some u ∧ AR w m H v u := by
    intro vs us r
    induction r with
    | nil => intro i v q; simp at q
    | cons h _ ih =>
      intro i v q
      cases i with
      | zero => simp at q; subst q; exact ⟨_, rfl, h⟩
      | succ i =>
        obtain ⟨u, e, r⟩ := ih (by simpa using q)
        exact ⟨u, by simpa using e, r⟩
  by_cases hi : i < vs.length
  · rw [List.getElem?_append_left (by simpa using hi), List.getElem?_map] at q
    cases q1 : vs[i]? with
    | none => rw [q1] at q; cases q
    | some x =>
      rw [q1] at q
      cases q
      obtain ⟨u, e, ru⟩ := get r q1
      refine ⟨u, ?_, ru⟩
      unfold L2.start
      rw [List.getElem?_append_left (by simpa [← hl] using hi), List.getElem?_map, e]
      rfl
  · rw [List.getElem?_append_right (by simpa using hi)] at q
    rw [List.getElem?_replicate] at q
    split at q <;> cases q
section
variable {P : Program} {w : World} {K : PySem.W.Frag} {mg : Str → Option Value} {base : Heap}
theorem prog_ok {ds : List PD} {tb : List (Str × Fn)} {G : Gv} {nf : Nat} {ad : Str → Addr} {fdd : Str → FuncData}
    (hF : ∀ d ∈ ds, (∃ dvs kws, FunD K d.f d.f d.params d.body d.scope dvs kws (ad d.f) (fdd d.f)) ∧ mg d.f = some (.ref (ad d.f)))
    (hS : ∀ d ∈ ds, FnScope d.N d.ps d.scope)
    (hT : ∀ d ∈ ds, ∃ fn, tb.lookup d.f = some fn ∧ fn.n = d.ps.length ∧ fn.slots = d.N.length ∧ trSs nf ⟨d.N, d.scope, true, G, d.mu⟩ d.body = some fn.body)
    (hcon : ∀ x v, G.consts.lookup x = some v → ∃ u r, mg x = some u ∧ RelV r u ∧ ∀ m H, VR ⟨K, mg⟩ m H v r)
    (hfre : ∀ x, G.free.contains x = true → mg x = none)
    (hisa : ∀ x t, G.isa.lookup x = some t → IsaOk K mg x t) (hrai : ∀ x b, G.rai.lookup x = some b → RaiOk K mg x)
    (hmk : ∀ q r, G.mkx.lookup q = some r → MkOk K mg q.1 q.2.1 q.2.2 r.1 r.2) (hfl : ∀ f t, G.fld.lookup f = some t → FldOk K mg f t)
    (hcal : ∀ q sh, G.calls.lookup q = some sh → ∃ d ∈ ds, d.f = q.1 ∧ BindOk ⟨K, mg⟩ (fdd d.f) d.ps q.2.1 q.2.2 sh) :
    ∀ k, ∀ d ∈ ds, FnG P w K mg base (L2.CX P w) (k + 2) (ad d.f) (fdd d.f) d.ps (spCl ⟨K, mg⟩ (callAt tb k) d.f d.ps.length) := by
  intro k
  induction k with
  | zero =>
    intro d hd
    refine ⟨fun A outer s H args us vs Q E _ _ _ _ _ h => ?_⟩
    obtain ⟨_, _, _, _, _, _, z⟩ := h
    exact z.elim
  | succ k ih =>
    intro d hd
    obtain ⟨⟨dvs, kws, F⟩, hm⟩ := hF d hd
    obtain ⟨fn, t1, t2, t3, t4⟩ := hT d hd
    refine fnG_of F (hS d hd) (fun vs H Q E h => h.1) fun cdv A outer s H us Q E hgd hr h => ?_
    obtain ⟨hl, vs, m, cs, rs, hc, st⟩ := h
    refine ⟨TStm ⟨K, mg⟩ (fun c d _ H => E c d H) (exs (callAt tb k) fn.body), ?_, ?_⟩
    · refine trSs_ok nf (X := cxOf (L2.CX P w) P w K mg base d.N d.f d.scope (ad d.f) cdv A outer s H E) (W := fun c d _ H => E c d H) ⟨⟨rfl, (hS d hd).nd, rfl, (hS d hd).kind, rfl, ?_, hgd, takes_of rfl rfl rfl rfl, fun _ _ => rfl, hcon, hfre, fun q sh e => ?_, hisa, hrai, hr.mono (by omega), hmk, hfl⟩, passes_of rfl, rfl, rfl, rfl⟩ t4
      · have := hr.un
        show (A.deeper _).units + 65 < cLine
        omega
      · obtain ⟨d2, h2, e2, g, gV, b1, b2⟩ := hcal q sh e
        obtain ⟨⟨dv2, kw2, F2⟩, hm2⟩ := hF d2 h2
        have I2 := ih d2 h2
        refine ⟨ad d2.f, fdd d2.f, d2.ps, k + 2, g, gV, ?_, F2.kp, hgd, hr, b1, ?_, b2⟩
        · rw [← e2]; exact hm2
        · rw [← e2]; exact I2
    · refine ⟨vs.map some ++ List.replicate (d.N.length - fn.n) none, m, cs, start_slo rs (by rw [rs.length, hl, t2]), hc, ?_⟩
      have lv : vs.length = fn.n := by rw [rs.length, hl, t2]
      have e : callAt tb (k + 1) d.f vs cs = leave cs.length (exs (callAt tb k) fn.body (vs.map some ++ List.replicate (d.N.length - fn.n) none) cs) := by
        simp only [callAt, t1, lv, if_true, t3]
      rw [e] at st
      exact (leave_ok hc.len st).mono (fun _ _ _ _ _ _ z => z) fun _ _ _ z _ => z
end

/-! ### how values come to parameters -/
theorem shape_pos : ∀ (vs pre : List Val), shape ((List.range vs.length).map fun i => .inl (pre.length + i)) (pre ++ vs) = some vs
  | [], _ => rfl
  | v :: vs, pre => by
    have ih := shape_pos vs (pre ++ [v])
    unfold shape at ih ⊢
    rw [List.length_cons, List.range_succ_eq_map, List.map_cons, List.mapM_cons]
    have e0 : (pre ++ v :: vs)[pre.length + 0]? = some v := by simp
    simp only [e0]
    have e1 : (List.map (fun i => (Sum.inl (pre.length + i) : Nat ⊕ Val)) (List.map Nat.succ (List.range vs.length))) = (List.range vs.length).map fun i => Sum.inl ((pre ++ [v]).length + i) := by
      rw [List.map_map]
      apply List.map_congr_left
      intro i _
      simp [Nat.succ_eq_add_one]
      omega
    rw [e1, show pre ++ v :: vs = pre ++ [v] ++ vs by simp]
    simp only [Option.bind_eq_bind, Option.bind_some]
    rw [ih]
    rfl
theorem shape_dfl : ∀ (sh : List (Nat ⊕ Val)) (ds : List Val) (vs ws : List Val), shape sh vs = some ws → shape (sh ++ ds.map .inr) vs = some (ws ++ ds)
  | [], [], vs, ws, h => by simpa [shape] using h
  | [], d :: ds, vs, ws, h => by
    have ih := shape_dfl [] ds vs [] rfl
    unfold shape at ih h ⊢
    simp at h
    subst h
    simp only [List.nil_append, List.map_cons, List.mapM_cons] at ih ⊢
    rw [ih]
    rfl
  | s :: sh, ds, vs, ws, h => by
    unfold shape at h ⊢
    rw [List.cons_append, List.mapM_cons] at *
    simp only [Option.bind_eq_bind, Option.bind_eq_some_iff, Option.pure_def, Option.some.injEq] at h ⊢
    obtain ⟨a, h1, as, h2, rfl⟩ := h
    exact ⟨a, h1, as ++ ds, shape_dfl sh ds vs as h2, rfl⟩
def posSh (n : Nat) : List (Nat ⊕ Val) := (List.range n).map .inl
theorem ARs.append {w : Wd} {m : MP} {H : Hp} : ∀ {xs xs' : List Val} {us us' : List V}, ARs w m H xs us → ARs w m H xs' us' → ARs w m H (xs ++ xs') (us ++ us')
  | _, _, _, _, .nil, h => h
  | _, _, _, _, .cons a t, h => .cons a (ARs.append t h)
theorem VRs.ars {w : Wd} {m : MP} {H : Hp} : ∀ {xs : List Val} {us : List V}, VRs w m H xs us → ARs w m H xs us
  | _, _, .nil => .nil
  | _, _, .cons a t => .cons (.val a) (VRs.ars t)
/-- f(a, b, ..): the values, then the defaults -/
theorem bind_of {w : Wd} {fd : FuncData} {ps : List Str} {n : Nat} {dv : List Val} {dvs : List V} {ds : List Value} (hn : n + dv.length = ps.length) (hb : Binds w.K fd ps ds) (hd : Vals dvs ds) (hv : ∀ m H, VRs w m H dv dvs) : BindOk w fd ps n [] (posSh n ++ dv.map .inr) := by
  have l1 := (hv ⟨[], []⟩ fun _ => none).length
  have l2 := hd.length
  refine ⟨fun us _ => us ++ ds, fun vs _ => vs ++ dvs, ⟨fun s us ws X hl hl2 => ?_, fun r _ => r.append hd⟩, fun m H vs us zs ws vs' r rz hl hl2 e => ?_⟩
  · have e : ([] : List Str).zip ws = [] := rfl
    rw [e]
    exact hb s us X (by rw [List.length_append]; omega)
  · cases rz with
    | cons => cases hl2
    | nil =>
      rw [List.append_nil] at e
      have lv : vs.length = n := r.length.trans hl
      have e2 := shape_dfl (posSh n) dv vs vs (by
        have := shape_pos vs []
        simpa [posSh, lv] using this)
      rw [e2] at e
      cases e
      exact ⟨r.append (hv m H).ars, by rw [List.length_append]; omega⟩
end Ps

set_option maxHeartbeats 2000000
/-! PsEnd: a law's end. -/
namespace Ps
open PySem PySem.Spec L2 PyProof.Rows

/-! ### the Hook: the head's facts and one Bool -/
def obsP (n : Nat) (fa : List He.Fa) (fn : List He.DefD) (ex : PySem.W.Frag → Bool) (g : Addr → Option Obj) : Bool × He.AlD := (ex (He.frG g (cStatics :: He.asD g n)), He.obsD fa fn (He.frG g (cStatics :: He.asD g n)))
def hookP (n : Nat) (fa : List He.Fa) (fn : List He.DefD) (ex : PySem.W.Frag → Bool) : PySem.W.Hook where
  α := Bool × He.AlD
  obs := fun s => obsP n fa fn ex s.heap.get?
  val := fun _ => (true, He.valD fn)
  says := fun _ h => ∃ K : PySem.W.Frag, K.In h ∧ He.SaysD fa fn K ∧ ex K = true
  of := fun _ _ e => ⟨_, He.frG_in, congrArg (fun z : Bool × He.AlD => z.2) e, congrArg (fun z : Bool × He.AlD => z.1) e⟩
  keeps := fun _ _ _ ⟨K, hK, c⟩ k => ⟨K, PySem.W.Frag.In.keeps hK k, c⟩
theorem obsP_eq {n : Nat} {fa : List He.Fa} {fn : List He.DefD} {ex : PySem.W.Frag → Bool} {g : Addr → Option Obj} {s : Shared} (h : ∀ a, g a = s.heap.get? a) : obsP n fa fn ex g = (hookP n fa fn ex).obs s := by
  have e : g = s.heap.get? := funext h
  rw [e] <;> rfl

/-! ### the module's constants -/
mutual
def valB (K : PySem.W.Frag) : Val → Value → Bool
  | .non, .none => true
  | .bl b, .bool c => b == c
  | .int i, .int j _ => decide (i = j)
  | .str x, .str y _ => decide (x = y)
  | .tup xs, .ref a => (match K.lookup a with
    | some ⟨.type c, _, .seq its _, _⟩ => decide (c = "tuple") && (decide (its.size ≤ sizeLine) && valsB K xs its.toList)
    | _ => false)
  | .fro xs, .ref a => (match K.lookup a with
    | some ⟨.type c, none, .seq its _, _⟩ => decide (c = "list") && (decide (its.size ≤ sizeLine) && valsB K xs its.toList)
    | _ => false)
  | _, _ => false
def valsB (K : PySem.W.Frag) : List Val → List Value → Bool
  | [], [] => true
  | v :: vs, u :: us => valB K v u && valsB K vs us
  | _, _ => false
end
def exB (cs : List (Str × Val)) (K : PySem.W.Frag) : Bool := cs.all fun q => match PySem.W.nsIn K mainGlobals q.1 with
  | some (some u) => valB K q.2 u
  | _ => false
/-- the class that a name stands for -/
def clsB (K : PySem.W.Frag) (x : Str) : Option Value := match PySem.W.nsIn K mainGlobals x with
  | some (some (.ref C)) => some (.ref C)
  | some none => (match bootBuiltins x with
    | some (.type t) => some (.type t)
    | _ => none)
  | _ => none
def isaB (K : PySem.W.Frag) (q : Str × List (Str × Bool)) : Bool := match clsB K q.1 with
  | some u => q.2.all fun nb => match PySem.W.nsIn K mainGlobals nb.1 with
    | some (some (.ref C)) => excKB K C && (decide (PySem.W.kitOne K (.ref C) u = some nb.2) && decide (PySem.W.exmOne K (.ref C) u = some nb.2))
    | _ => false
  | none => false
def raiB (K : PySem.W.Frag) (q : Str × String) : Bool := match PySem.W.nsIn K mainGlobals q.1 with
  | some (some (.ref C)) => excKB K C && (if q.2 = "ValueError" then PySem.W.excIn K C [.type "ValueError", .type "Exception", .type "BaseException", .type "object"] "ValueError.__new__"
    else if q.2 = "LookupError" then PySem.W.excIn K C [.type "LookupError", .type "Exception", .type "BaseException", .type "object"] "LookupError.__new__"
    else if q.2 = "RuntimeError" then PySem.W.excIn K C [.type "RuntimeError", .type "Exception", .type "BaseException", .type "object"] "RuntimeError.__new__" else false)
  | _ => false
/-- a class with an __init__ of its own: the class, its __init__, its parameters, its fields, the class over it, the built-in one -/
structure LX where
  cls : Str
  d : He.DefD
  ps : List Str
  fs : List Str
  bx : Str
  bi : String
def biB (K : PySem.W.Frag) (C : Addr) (b : String) : Bool := if b = "ValueError" then PySem.W.excInitIn K C [.type "ValueError", .type "Exception", .type "BaseException", .type "object"] "ValueError.__new__" && PySem.W.excOver K C [.type "ValueError", .type "Exception", .type "BaseException", .type "object"]
    else if b = "LookupError" then PySem.W.excInitIn K C [.type "LookupError", .type "Exception", .type "BaseException", .type "object"] "LookupError.__new__" && PySem.W.excOver K C [.type "LookupError", .type "Exception", .type "BaseException", .type "object"]
    else if b = "RuntimeError" then PySem.W.excInitIn K C [.type "RuntimeError", .type "Exception", .type "BaseException", .type "object"] "RuntimeError.__new__" && PySem.W.excOver K C [.type "RuntimeError", .type "Exception", .type "BaseException", .type "object"] else false
def baseB (K : PySem.W.Frag) (x : Str) (iId : String) : Bool := eqR (PySem.W.nsIn K mainGlobals x) (some (some (.ref (He.ga K x)))) && (eqR (PySem.W.specialIn K (.ref (He.ga K x)) "__getattribute__") (some (some (.builtin "type.__getattribute__"))) && (PySem.W.readsIn K (He.ga K x) (.type "type") && fcB K (He.ga K x) iId))
  where
    eqR (a b : Option (Option Value)) : Bool := decide (a = b)
    fcB (K : PySem.W.Frag) (C : Addr) (iId : String) : Bool := match PySem.W.findCls K (.ref C) (.type "type") "__init__" with
      | some (.val (.builtin i)) => decide (i = iId) && PySem.W.handedIn (.builtin iId)
      | _ => false
/-- what is looked at in the heap -/
def lxB (K : PySem.W.Frag) (l : LX) : Bool := decide (PySem.W.nsIn K mainGlobals l.cls = some (some (.ref (He.ga K l.cls)))) && (biB K (He.ga K l.cls) l.bi && (PySem.W.hasDictIn K (He.ga K l.cls) && (decide (PySem.W.findIn K (.ref (He.ga K l.cls)) "__setattr__" = some (some (.builtin "object.__setattr__"))) && (excKB K (He.ga K l.cls) &&
  (baseB K l.bx (l.bi ++ ".__init__") && ((l.fs.all fun f => decide (PySem.W.takerIn K (He.ga K l.cls) f = some none)) && (decide (PySem.W.findIn K (.ref (He.ga K l.cls)) "__init__" = some (some (.ref (He.ma K (He.ga K l.cls) "__init__")))) && decide (PySem.W.typeIn K (.ref (He.ma K (He.ga K l.cls) "__init__")) = some (.type "function")))))))))
/-- what is looked at in the text -/
def visBB (sc : Scope) (x : Str) : Bool := visB sc x && (!(x == ("__debug__" : Str)) && !(x == ("__classdict__" : Str)))
def LX.ok (l : LX) : Bool := decide (l.d.at_ = (l.cls, some ("__init__" : Str))) && (decide (l.d.name = "__init__") && (C8.scC l.ps l.ps l.d.scope && (match l.ps with
  | [] => false
  | sf :: fs => decide (fs = l.fs) && (decide (initOf sf l.d.body = some (l.bx, l.fs)) && (decide (l.d.scope.names.lookup l.bx = some .globalImplicit) && (!(l.bx == ("__debug__" : Str)) && (l.ps.all (visBB l.d.scope) && (!l.fs.isEmpty && decide (l.fs.length ≤ 800)))))))))
def fldB (K : PySem.W.Frag) (q : Str × List Str) : Bool := q.2.all fun n => decide (PySem.W.nsIn K mainGlobals n = some (some (.ref (He.ga K n)))) && (xfB K (He.ga K n) && decide (PySem.W.findIn K (.ref (He.ga K n)) q.1 = some none))
def exG (G : Gv) (lx : List LX) (K : PySem.W.Frag) : Bool := exB G.consts K && (G.isa.all (isaB K) && (G.rai.all (raiB K) && (lx.all (lxB K) && G.fld.all (fldB K))))
theorem fldB_ok {K : PySem.W.Frag} {h : Heap} {mg : Str → Option Value} (X : K.In h) (Gl : h.Ns mainGlobals mg) {f : Str} {t : List Str} (e : fldB K (f, t) = true) : FldOk K mg f t := fun n hn => by
  have z := List.all_eq_true.mp e n hn
  simp only [Bool.and_eq_true, decide_eq_true_eq] at z
  exact ⟨_, PySem.W.mg_of X Gl z.1, xfB_ok z.2.1, z.2.2⟩
def fdX (K : PySem.W.Frag) (l : LX) : FuncData := match K.lookup (He.ma K (He.ga K l.cls) "__init__") with
  | some ⟨_, _, .func fd, _⟩ => fd
  | _ => PySem.W.fnOf l.cls l.cls ⟨[], [], none, [], [], none, []⟩ [] ⟨.function, [], false, false, []⟩ .none .none .none .none none .none .none
abbrev LX.is (K : PySem.W.Frag) (l : LX) : Prop := FunD K "__init__" l.d.qual l.d.params l.d.body l.d.scope (l.d.dvs K) (l.d.kws K) (He.ma K (He.ga K l.cls) "__init__") (fdX K l)
theorem mkC_of {K : PySem.W.Frag} {h : Heap} {mg : Str → Option Value} (X : K.In h) (Gl : h.Ns mainGlobals mg) {l : LX} (F : l.is K) (e : lxB K l = true) (t : l.ok = true) : MkC K mg (He.ga K l.cls) (He.ma K (He.ga K l.cls) "__init__") (fdX K l) l.ps l.fs l.cls := by
  simp only [lxB, Bool.and_eq_true, decide_eq_true_eq] at e
  obtain ⟨e1, e2, e3, e4, e5, e6, e7, e8, e9⟩ := e
  simp only [LX.ok, Bool.and_eq_true, decide_eq_true_eq] at t
  obtain ⟨t1, t2, t3, t4⟩ := t
  have k := excKB_ok e5
  simp only [baseB, baseB.eqR, Bool.and_eq_true, decide_eq_true_eq] at e6
  obtain ⟨b1, b2, b3, b4⟩ := e6
  have bc : BaseC K (He.ga K l.bx) (l.bi ++ ".__init__") := by
    unfold baseB.fcB at b4
    split at b4
    · rename_i i q
      rw [Bool.and_eq_true, decide_eq_true_eq] at b4
      rw [b4.1] at q
      exact ⟨b2, b3, q, b4.2⟩
    · cases b4
  have og : ∃ B nId bmB, OexG K (He.ga K l.cls) B nId (l.bi ++ ".__init__") bmB := by
    unfold biB at e2
    split at e2
    · rename_i hb
      rw [Bool.and_eq_true] at e2
      rw [hb]
      exact ⟨_, _, _, PySem.F.excBase_ValueError, PySem.F.store_ValueError, e2.1, e2.2, e3, e4, k⟩
    · split at e2
      · rename_i hb
        rw [Bool.and_eq_true] at e2
        rw [hb]
        exact ⟨_, _, _, PySem.F.excBase_LookupError, PySem.F.store_LookupError, e2.1, e2.2, e3, e4, k⟩
      · split at e2
        · rename_i hb
          rw [Bool.and_eq_true] at e2
          rw [hb]
          exact ⟨_, _, _, PySem.F.excBase_RuntimeError, PySem.F.store_RuntimeError, e2.1, e2.2, e3, e4, k⟩
        · cases e2
  obtain ⟨B, nId, bmB, T⟩ := og
  split at t4
  · cases t4
  · rename_i sf fs hps
    simp only [Bool.and_eq_true, decide_eq_true_eq, Bool.not_eq_true'] at t4
    obtain ⟨u1, u2, u3, u4, u5, u6, u7⟩ := t4
    subst u1
    refine ⟨PySem.W.mg_of X Gl e1, ⟨B, nId, _, bmB, He.ga K l.bx, l.bx, sf, _, _, _, _, _, _, T, bc, PySem.W.mg_of X Gl b1, F, C8.fnScope_by t3, u2, hps, u3, u4, fun y hy => ?_, fun f hf => ?_, ?_, u7⟩, e8, e9⟩
    · have z := List.all_eq_true.mp u5 y hy
      simp only [visBB, Bool.and_eq_true, Bool.not_eq_true'] at z
      refine ⟨?_, z.2.1, z.2.2⟩
      have v := z.1
      unfold visB at v
      unfold Vis
      split at v <;> simp_all
    · exact of_decide_eq_true (List.all_eq_true.mp e7 f hf)
    · intro z
      rw [z] at u6
      cases u6
theorem look_in {α : Type} {x : Str} {v : α} : ∀ {l : List (Str × α)}, l.lookup x = some v → (x, v) ∈ l
  | [], h => by cases h
  | (y, u) :: r, h => by
    rw [List.lookup_cons] at h
    split at h
    · rename_i q
      cases h
      rw [eq_of_beq q]
      exact List.mem_cons_self
    · exact List.mem_cons_of_mem _ (look_in h)
theorem isaB_ok {K : PySem.W.Frag} {h : Heap} {mg : Str → Option Value} (X : K.In h) (Gl : h.Ns mainGlobals mg) {x : Str} {t : List (Str × Bool)} (e : isaB K (x, t) = true) : IsaOk K mg x t := by
  unfold isaB at e
  split at e
  · rename_i u q
    refine ⟨u, ?_, ?_, fun n b hn => ?_⟩
    · unfold clsB at q
      split at q
      · rename_i C q1; cases q; exact .inl (PySem.W.mg_of X Gl q1)
      · rename_i q1
        split at q
        · rename_i t q2; cases q; exact .inr ⟨PySem.W.mg_none_of X Gl q1, q2⟩
        · cases q
      · cases q
    · unfold clsB at q
      split at q
      · rename_i C q1; cases q; exact .inl ⟨_, rfl⟩
      · split at q
        · cases q; exact .inr ⟨_, rfl⟩
        · cases q
      · cases q
    · have z := List.all_eq_true.mp e (n, b) (look_in hn)
      dsimp only at z
      split at z
      · rename_i C q1
        simp only [Bool.and_eq_true, decide_eq_true_eq] at z
        exact ⟨C, PySem.W.mg_of X Gl q1, excKB_ok z.1, z.2.1, z.2.2⟩
      · cases z
  · cases e
theorem raiB_ok {K : PySem.W.Frag} {h : Heap} {mg : Str → Option Value} (X : K.In h) (Gl : h.Ns mainGlobals mg) {x : Str} {b : String} (e : raiB K (x, b) = true) : RaiOk K mg x := by
  unfold raiB at e
  split at e
  · rename_i C q
    rw [Bool.and_eq_true] at e
    obtain ⟨e1, e2⟩ := e
    have g := PySem.W.mg_of X Gl q
    split at e2
    · exact ⟨C, _, _, _, _, g, PySem.F.excBase_ValueError, e2, excKB_ok e1⟩
    · split at e2
      · exact ⟨C, _, _, _, _, g, PySem.F.excBase_LookupError, e2, excKB_ok e1⟩
      · split at e2
        · exact ⟨C, _, _, _, _, g, PySem.F.excBase_RuntimeError, e2, excKB_ok e1⟩
        · cases e2
  · cases e
mutual
theorem valB_ok {K : PySem.W.Frag} {mg : Str → Option Value} : ∀ (v : Val) (u : Value), valB K v u = true → ∃ r, RelV r u ∧ ∀ m H, VR ⟨K, mg⟩ m H v r
  | .non, u, h => by
    cases u with
    | none => exact ⟨.non, rfl, fun _ _ => .non⟩
    | _ => simp [valB] at h
  | .bl b, u, h => by
    cases u with
    | bool c =>
      have e : b = c := by simpa [valB] using h
      subst e
      exact ⟨.bl b, rfl, fun _ _ => .bl b⟩
    | _ => simp [valB] at h
  | .int i, u, h => by
    cases u with
    | int j t =>
      have e : i = j := by simpa [valB] using h
      subst e
      exact ⟨.int i, ⟨t, rfl⟩, fun _ _ => .int i⟩
    | _ => simp [valB] at h
  | .str i, u, h => by
    cases u with
    | str j t =>
      have e : i = j := by simpa [valB] using h
      subst e
      exact ⟨.str i, ⟨t, rfl⟩, fun _ _ => .str i⟩
    | _ => simp [valB] at h
  | .tup xs, u, h => by
    cases u with
    | ref a =>
      unfold valB at h
      split at h
      · rename_i c od its n sl q
        simp only [Bool.and_eq_true, decide_eq_true_eq] at h
        obtain ⟨rfl, h2, h3⟩ := h
        obtain ⟨rs, r1, r2⟩ := valsB_ok xs its.toList h3
        exact ⟨.ref a, rfl, fun m H => .tup (.inr ⟨_, its, n, q, rfl, rfl, h2, r1⟩) (r2 m H)⟩
      · cases h
    | _ => simp [valB] at h
  | .fro xs, u, h => by
    cases u with
    | ref a =>
      unfold valB at h
      split at h
      · rename_i c its n sl q
        simp only [Bool.and_eq_true, decide_eq_true_eq] at h
        obtain ⟨rfl, h2, h3⟩ := h
        obtain ⟨rs, r1, r2⟩ := valsB_ok xs its.toList h3
        exact ⟨.ref a, rfl, fun m H => .fro (.inr ⟨_, its, n, q, rfl, rfl, rfl, h2, r1⟩) (r2 m H)⟩
      · cases h
    | _ => simp [valB] at h
  | .lst _, u, h => by simp [valB] at h
  | .emp, u, h => by simp [valB] at h
  | .ref _, u, h => by simp [valB] at h
  | .fn _, u, h => by simp [valB] at h
  | .ty _, u, h => by simp [valB] at h
  | .exc _ _ _, u, h => by simp [valB] at h
theorem valsB_ok {K : PySem.W.Frag} {mg : Str → Option Value} : ∀ (vs : List Val) (us : List Value), valsB K vs us = true → ∃ rs, Vals rs us ∧ ∀ m H, VRs ⟨K, mg⟩ m H vs rs
  | [], [], _ => ⟨[], .nil, fun _ _ => .nil⟩
  | [], _ :: _, h => by simp [valsB] at h
  | _ :: _, [], h => by simp [valsB] at h
  | v :: vs, u :: us, h => by
    simp only [valsB, Bool.and_eq_true] at h
    obtain ⟨r, r1, r2⟩ := valB_ok (mg := mg) v u h.1
    obtain ⟨rs, s1, s2⟩ := valsB_ok (mg := mg) vs us h.2
    exact ⟨r :: rs, .cons r1 s1, fun m H => .cons (r2 m H) (s2 m H)⟩
end

/-! ### a law's defs -/
structure LD where
  d : He.DefD
  N : List Str
  ps : List Str
  mu : List Str := []
def LD.pd (l : LD) : PD := ⟨l.d.name, l.N, l.ps, l.d.params, l.d.body, l.d.scope, l.mu⟩
def faOf (ls : List LD) (G : Gv) : List He.Fa := ls.map (fun l => .glo l.d.name) ++ G.free.map .free
def fnsOf (ls : List LD) (lx : List LX) : List He.DefD := ls.map (·.d) ++ lx.map (·.d)
def LD.tr (nf : Nat) (G : Gv) (l : LD) : Option (List S) := trSs nf ⟨l.N, l.d.scope, true, G, l.mu⟩ l.d.body
def tbOf (nf : Nat) (G : Gv) (ls : List LD) : List (Str × Fn) := ls.map fun l => (l.d.name, ⟨l.ps.length, l.N.length, (l.tr nf G).getD []⟩)
/-- looks at the text alone -/
def LD.ok (nf : Nat) (G : Gv) (l : LD) : Bool := decide (l.d.at_ = (l.d.name, none)) && (decide (l.d.qual = l.d.name) && (C8.scC l.N l.ps l.d.scope && (l.tr nf G).isSome))
def fdOf (K : PySem.W.Frag) (x : Str) : FuncData := match K.lookup (He.ga K x) with
  | some ⟨_, _, .func fd, _⟩ => fd
  | _ => PySem.W.fnOf x x ⟨[], [], none, [], [], none, []⟩ [] ⟨.function, [], false, false, []⟩ .none .none .none .none none .none .none
theorem fdOf_eq {K : PySem.W.Frag} {x y qual : Str} {params : Arguments} {body : List Stmt} {scope : Scope} {dvs : List V} {kws : List (Str × V)} {fd : FuncData} (F : FunD K y qual params body scope dvs kws (He.ga K x) fd) : fdOf K x = fd := by
  obtain ⟨oc, od, dV, kV, doc, pm, an, cdv, ct, osl, e, lk, _⟩ := F.ex
  unfold fdOf
  rw [lk]
abbrev LD.is (K : PySem.W.Frag) (l : LD) : Prop := FunD K l.d.name l.d.name l.d.params l.d.body l.d.scope (l.d.dvs K) (l.d.kws K) (He.ga K l.d.name) (fdOf K l.d.name)
theorem ld_is {ls : List LD} {lx : List LX} {G : Gv} {nf : Nat} {K : PySem.W.Frag} (hok : ls.all (LD.ok nf G) = true) (c : He.SaysD (faOf ls G) (fnsOf ls lx) K) : ∀ l ∈ ls, l.is K := by
  intro l hl
  obtain ⟨i, hi⟩ := List.mem_iff_getElem?.mp hl
  have h := List.all_eq_true.mp hok l hl
  simp only [LD.ok, Bool.and_eq_true, decide_eq_true_eq] at h
  obtain ⟨fd, F⟩ := c.def_ i (d := l.d) (by unfold fnsOf; rw [List.getElem?_append_left (by simpa using (List.getElem?_eq_some_iff.mp hi).1), List.getElem?_map, hi]; rfl)
  rw [h.1, h.2.1] at F
  have F2 : FunD K l.d.name l.d.name l.d.params l.d.body l.d.scope (l.d.dvs K) (l.d.kws K) (He.ga K l.d.name) fd := F
  rw [← fdOf_eq F2] at F2
  exact F2
theorem lx_is {ls : List LD} {lx : List LX} {G : Gv} {K : PySem.W.Frag} (hok : lx.all LX.ok = true) (c : He.SaysD (faOf ls G) (fnsOf ls lx) K) : ∀ l ∈ lx, l.is K := by
  intro l hl
  obtain ⟨i, hi⟩ := List.mem_iff_getElem?.mp hl
  have h := List.all_eq_true.mp hok l hl
  simp only [LX.ok, Bool.and_eq_true, decide_eq_true_eq] at h
  obtain ⟨fd, F⟩ := c.def_ (ls.length + i) (d := l.d) (by unfold fnsOf; rw [List.getElem?_append_right (by simp), List.length_map, Nat.add_sub_cancel_left, List.getElem?_map, hi]; rfl)
  rw [h.1, h.2.1] at F
  have F2 : FunD K "__init__" l.d.qual l.d.params l.d.body l.d.scope (l.d.dvs K) (l.d.kws K) (He.ma K (He.ga K l.cls) "__init__") fd := F
  have e : fdX K l = fd := by
    obtain ⟨oc, od, dV, kV, doc, pm, an, cdv, ct, osl, e, lk, _⟩ := F2.ex
    unfold fdX
    rw [lk]
  rw [← e] at F2
  exact F2
/-- P of every pair -/
def AllP {α β : Type} (P : α → β → Prop) : List (α × β) → Prop
  | [] => True
  | q :: l => P q.1 q.2 ∧ AllP P l
theorem AllP.at {α β : Type} [BEq α] [LawfulBEq α] {P : α → β → Prop} : ∀ {l : List (α × β)}, AllP P l → ∀ a b, l.lookup a = some b → P a b
  | [], _, _, _, e => by cases e
  | (x, y) :: l, h, a, b, e => by
    rw [List.lookup_cons] at e
    split at e
    · rename_i q
      cases e
      rw [eq_of_beq q]
      exact h.1
    · exact AllP.at h.2 a b e
theorem lookup_all {α β : Type} [BEq α] [LawfulBEq α] {p : α × β → Bool} : ∀ {l : List (α × β)}, l.all p = true → ∀ a b, l.lookup a = some b → p (a, b) = true
  | [], _, _, _, e => by cases e
  | (x, y) :: l, h, a, b, e => by
    rw [List.all_cons, Bool.and_eq_true] at h
    rw [List.lookup_cons] at e
    split at e
    · rename_i q
      cases e
      rw [eq_of_beq q]
      exact h.1
    · exact lookup_all h.2 a b e
theorem tb_lookup {nf : Nat} {G : Gv} : ∀ {ls : List LD}, (ls.map (·.d.name)).Nodup → ∀ l ∈ ls, (tbOf nf G ls).lookup l.d.name = some ⟨l.ps.length, l.N.length, (l.tr nf G).getD []⟩
  | [], _, l, h => by cases h
  | k :: ls, nd, l, h => by
    rw [List.map_cons, List.nodup_cons] at nd
    unfold tbOf
    rw [List.map_cons, List.lookup_cons]
    rcases List.mem_cons.mp h with rfl | h
    · simp
    · have ne : (l.d.name == k.d.name) = false := by
        rw [beq_eq_false_iff_ne]
        intro e
        exact nd.1 (by rw [← e]; exact List.mem_map_of_mem h)
      rw [ne]
      exact tb_lookup nd.2 l h
theorem defs_ok {P : Program} {w : World} {K : PySem.W.Frag} {mg : Str → Option Value} {h base : Heap} {ls : List LD} {lx : List LX} {G : Gv} {nf : Nat} (X : K.In h) (Gl : h.Ns mainGlobals mg)
    (hok : ls.all (LD.ok nf G) = true) (hlx : lx.all LX.ok = true) (nd : (ls.map (·.d.name)).Nodup) (c : He.SaysD (faOf ls G) (fnsOf ls lx) K) (hex : exG G lx K = true)
    (hmx : AllP (fun q r => ∃ l ∈ lx, l.cls = q.1 ∧ r.1 = l.fs.reverse ∧ q.2.1 ≤ 1000 ∧ BindI ⟨K, mg⟩ (fdX K l) l.ps l.fs q.2.1 q.2.2 r.2) G.mkx)
    (hcal : AllP (fun q sh => ∃ l ∈ ls, l.d.name = q.1 ∧ BindOk ⟨K, mg⟩ (fdOf K l.d.name) l.ps q.2.1 q.2.2 sh) G.calls) :
    ∀ k, ∀ l ∈ ls, FnG P w K mg base (L2.CX P w) (k + 2) (He.ga K l.d.name) (fdOf K l.d.name) l.ps (spCl ⟨K, mg⟩ (callAt (tbOf nf G ls) k) l.d.name l.ps.length) := by
  have his := ld_is hok c
  simp only [exG, Bool.and_eq_true] at hex
  obtain ⟨hex, hisa, hrai, hlxB, hflB⟩ := hex
  have hxs := lx_is hlx c
  have fct : ∀ f ∈ faOf ls G, f.ok K = true := fun f hf => by
    obtain ⟨i, hi⟩ := List.mem_iff_getElem?.mp hf
    exact c.fact i hi
  have key := prog_ok (P := P) (w := w) (K := K) (mg := mg) (base := base) (ds := ls.map LD.pd) (tb := tbOf nf G ls) (G := G) (nf := nf) (ad := He.ga K) (fdd := fdOf K)
    (fun d hd => by
      obtain ⟨l, hl, rfl⟩ := List.mem_map.mp hd
      exact ⟨⟨_, _, his l hl⟩, He.glo_ok X Gl (fct _ (List.mem_append_left _ (List.mem_map_of_mem (f := fun l : LD => He.Fa.glo l.d.name) hl)))⟩)
    (fun d hd => by
      obtain ⟨l, hl, rfl⟩ := List.mem_map.mp hd
      have z := List.all_eq_true.mp hok l hl
      simp only [LD.ok, Bool.and_eq_true] at z
      exact C8.fnScope_by z.2.2.1)
    (fun d hd => by
      obtain ⟨l, hl, rfl⟩ := List.mem_map.mp hd
      have z := List.all_eq_true.mp hok l hl
      simp only [LD.ok, Bool.and_eq_true] at z
      obtain ⟨b, hb⟩ := Option.isSome_iff_exists.mp z.2.2.2
      refine ⟨_, tb_lookup nd l hl, rfl, rfl, ?_⟩
      show l.tr nf G = some ((l.tr nf G).getD [])
      rw [hb]
      rfl)
    (fun x v e => by
      have z := lookup_all hex x v e
      dsimp only at z
      split at z
      · rename_i u q
        obtain ⟨r, r1, r2⟩ := valB_ok (mg := mg) v u z
        exact ⟨u, r, PySem.W.mg_of X Gl q, r1, r2⟩
      · cases z)
    (fun x e => He.free_ok X Gl (fct _ (List.mem_append_right _ (List.mem_map_of_mem (f := He.Fa.free) (by simpa using e)))))
    (fun x t e => isaB_ok X Gl (List.all_eq_true.mp hisa (x, t) (look_in e)))
    (fun x b e => raiB_ok X Gl (List.all_eq_true.mp hrai (x, b) (look_in e)))
    (fun q r e => by
      obtain ⟨l, hl, e1, e2, e3, e4⟩ := hmx.at q r e
      have M := mkC_of X Gl (hxs l hl) (List.all_eq_true.mp hlxB l hl) (List.all_eq_true.mp hlx l hl)
      rw [e1] at M
      obtain ⟨B, nId, iId, bmB, CB, bx, sf, qual, params, body, scope, dvs, kws, T, _⟩ := M.ex
      have kC := T.k.kp
      rw [← e1] at kC M ⊢
      exact ⟨_, _, _, _, _, M, kC, e2, e3, e4⟩)
    (fun f t e => fldB_ok X Gl (List.all_eq_true.mp hflB (f, t) (look_in e)))
    (fun q sh e => by
      obtain ⟨l, hl, e1, e2⟩ := hcal.at q sh e
      exact ⟨l.pd, List.mem_map_of_mem hl, e1, e2⟩)
  exact fun k l hl => key k l.pd (List.mem_map_of_mem hl)

/-! ### how the defs bind -/
theorem bind_pos {K : PySem.W.Frag} {mg : Str → Option Value} {l : LD} (F : l.is K) (hd : l.d.dfl = [])
    (h : ∀ (kV doc pm : Value) (an : Option Addr) (cdv ct : Value) (us : List Value), us.length = l.ps.length → bindArgs (PySem.W.fnOf l.d.name l.d.name l.d.params l.d.body l.d.scope .none kV doc pm an cdv ct) ⟨us, []⟩ = pure (l.ps.zip us)) :
    BindOk ⟨K, mg⟩ (fdOf K l.d.name) l.ps l.ps.length [] (posSh l.ps.length) := by
  have F2 : FunD K l.d.name l.d.name l.d.params l.d.body l.d.scope [] (l.d.kws K) (He.ga K l.d.name) (fdOf K l.d.name) := by
    have e : l.d.dvs K = [] := by unfold He.DefD.dvs; rw [hd]; rfl
    rw [← e]; exact F
  have := bind_of (w := ⟨K, mg⟩) (n := l.ps.length) (dv := []) (dvs := []) (ds := []) rfl (F2.bindsN h) .nil fun _ _ => .nil
  simpa using this
/-! ### the end -/
theorem law_callG {P : Program} {w : World} {K : PySem.W.Frag} {mg mb : Str → Option Value} {CX : CXT} {k : Nat} {fa a : Addr} {fd : FuncData} {x : Str} {sp : Sp} {s₁ : Shared} {vs : List Value} {ns : List Int}
    (KX : K.In s₁.heap) (hns : s₁.heap.Ns mainGlobals mg) (hb : s₁.heap.Ns builtinsNs mb) (hbb : ∀ x : Str, x ≠ "__name__" → mb x = bootBuiltins x) (hlim : s₁.heap.NoLimit) (hg : s₁.gens = #[])
    (ha : s₁.heap.get? a = some { cls := .type "list", data := .seq vs.toArray }) (hi : IntsAre vs ns) (hl : ns.length ≤ sizeLine) (hr : Room k callerA)
    (F : ∀ base : Heap, FnG P w K mg base CX k fa fd [x] sp) (hbind : ∀ (s : Shared) (u : Value), BindsTo s fd ⟨[u], []⟩ [(x, u)])
    (hsp : ∀ H : Hp, SqL K H a (ns.map V.int) → sp [.ref a] H (fun v _ => v = .bl true) fun _ _ _ => False)
    (hCX : ∀ H e s', CX [] H s₁ (fun _ _ _ => False) e s' → False) :
    codeAny (model P w) callerA (.call (.ref fa) ⟨[.ref a], []⟩) (fun r s' => r = .ok (.ret (.bool true)) ∧ OldK s₁.heap s'.heap ∧ s'.os = s₁.os ∧ AllBare s'.gens) s₁ := by
  have rv := vals_ints hi
  have lenV := hi.length
  have core : ∀ H : Hp, L2.Only H → SqL K H a (ns.map V.int) → HOk P w H s₁.heap → (∀ b, H b ≠ none → b = a) → (H a ≠ none → K.lookup a = none) →
      codeAny (model P w) callerA (.call (.ref fa) ⟨[.ref a], []⟩) (fun r s' => r = .ok (.ret (.bool true)) ∧ OldK s₁.heap s'.heap ∧ s'.os = s₁.os ∧ AllBare s'.gens) s₁ := by
    intro H hO hS hok hA hK
    have only : ∀ {b : Addr}, H b ≠ none → b ≠ a → False := fun h n => n (hA _ h)
    have base_of : ∀ {b : Addr} {o : Obj}, s₁.heap.get? b = some o → H b = none → (hidT s₁.heap H).get? b = some o := fun e n => hidT_get e n
    have noA : ∀ {b : Addr} {o : Obj} {es : Array DictEntry} {ep : Nat}, s₁.heap.get? b = some o → o.data = .dict es ep → H b = none := fun {b o es ep} e d => by
      refine Classical.byContradiction fun n => ?_
      have e' := hA b n
      subst e'
      rw [ha] at e
      cases e
      cases (show Data.seq vs.toArray _ = Data.dict es ep from d)
    have nsK : ∀ {b : Addr} {m : Str → Option Value}, s₁.heap.Ns b m → (hidT s₁.heap H).Ns b m := fun {b m} ⟨o, es, ep, e, d, r⟩ => ⟨o, es, ep, base_of e (noA e d), d, r⟩
    have hKb : K.In (hidT s₁.heap H) := fun b o e => base_of (KX b o e) (by
      refine Classical.byContradiction fun n => ?_
      have e' := hA b n
      subst e'
      rw [hK n] at e
      cases e)
    have hM : Mod K mg (hidT s₁.heap H) := ⟨hKb, nsK hns, ⟨mb, nsK hb, hbb⟩, let ⟨mc, h1, h2⟩ := hlim; ⟨mc, nsK h1, h2⟩⟩
    have e0 : Env0 P w K mg (hidT s₁.heap H) callerA [] s₁ H := ⟨rfl, hM, fun b o e => of_hidT e, Nat.le_of_eq (hidT_size _ _), trivial, fun b hb => absurd (show b ∈ ([] : List Addr) from hb) (by simp), hok, .of_eq hg⟩
    refine codeAny_mono ((F _).run callerA [] s₁ H ⟨[.ref a], []⟩ [.ref a] [.ref a] _ _ rfl hr e0 (hbind s₁ (.ref a)) (.cons rfl .nil) (hsp H hS)) fun r s' h => ?_
    cases r with
    | error e => exact (hCX H e s' h).elim
    | ok fl =>
      cases fl with
      | next => exact False.elim h
      | brk => exact False.elim h
      | cont => exact False.elim h
      | ret u =>
        obtain ⟨v, H', os, bare, un, hok', r', q⟩ := h
        obtain rfl : v = .bl true := q
        obtain rfl : u = Value.bool true := r'
        refine ⟨rfl, OldK.of_keep fun b o e => ?_, os, bare⟩
        rcases hO b with z | ⟨ob, xs, z⟩
        · exact un.keep b o e z (by intro y; exact absurd (show b ∈ ([] : List Addr) from y) (by simp)) (by simp)
        · obtain ⟨e1, _⟩ := hok b _ z
          obtain ⟨e2, _⟩ := hok' b _ (un.frzs b ob _ z)
          rw [e] at e1
          cases e1
          exact e2
  cases hk : K.lookup a with
  | some o =>
    have e := KX a o hk
    rw [ha] at e
    cases e
    exact core (fun _ => none) (fun _ => .inl rfl) (.inr ⟨_, vs.toArray, _, hk, rfl, rfl, rfl, by rw [List.size_toArray, lenV]; exact hl, by simpa using rv⟩) (fun b u z => by cases z) (fun b z => absurd rfl z) fun z => absurd rfl z
  | none =>
    refine core (fun b => if b = a then some (.frz { cls := .type "list", data := .seq vs.toArray } (.lst (ns.map V.int))) else none) (fun b => ?_) (.inl (.inr ⟨{ cls := .type "list", data := .seq vs.toArray }, if_pos rfl⟩)) (fun b u z => ?_) (fun b z => ?_) fun _ => hk
    · by_cases hb : b = a
      · exact .inr ⟨_, _, if_pos hb⟩
      · exact .inl (if_neg hb)
    · by_cases hb : b = a
      · have z' := (if_pos hb).symm.trans z
        cases z'
        subst hb
        exact ⟨ha, by rw [List.length_map]; exact hl, vs, _, rv, ha⟩
      · have z' := (if_neg hb).symm.trans z
        cases z'
    · exact Classical.byContradiction fun hb => z (if_neg hb)
theorem ints_vrs {w : Wd} {m : MP} {H : Hp} : ∀ ns : List Int, VRs w m H (ns.map .int) (ns.map V.int)
  | [] => .nil
  | n :: ns => .cons (.int n) (ints_vrs ns)
/-- THE END: a law is an equation about the small interpreter -/
theorem law_end {l : PySem.W.OpenLaw} {k nf : Nat} {q : Program} {loose : List Str} {XP : (Str → Option Value) → Heap → Prop} {d : DefRec} {x : Str} {ls : List LD} {lx : List LX} {G : Gv} {YP : World → Heap → Prop}
    (hn : l.most = some 63) (hdf : d.params.defaults = []) (hr : Room (k + 2) callerA) (hname : d.name = ("law" : Str)) (hY : ∀ w h, YP w h → ∃ K : PySem.W.Frag, K.In h ∧ He.SaysD (faOf ls G) (fnsOf ls lx) K ∧ exG G lx K = true)
    (hok : ls.all (LD.ok nf G) = true) (hlx : lx.all LX.ok = true) (nd : (ls.map (·.d.name)).Nodup) {i : Nat} {ll : LD} (hi : ls[i]? = some ll) (hll : ll.d.name = ("law" : Str)) (hps : ll.ps = [x]) (hdd : ll.d.dfl = [])
    (hb1 : ∀ (kV doc pm : Value) (an : Option Addr) (cdv ct : Value) (us : List Value), us.length = ll.ps.length → bindArgs (PySem.W.fnOf ll.d.name ll.d.name ll.d.params ll.d.body ll.d.scope .none kV doc pm an cdv ct) ⟨us, []⟩ = pure (ll.ps.zip us))
    (hcal : ∀ (K : PySem.W.Frag) (mg : Str → Option Value), (∀ l ∈ ls, l.is K) → AllP (fun q sh => ∃ l ∈ ls, l.d.name = q.1 ∧ BindOk ⟨K, mg⟩ (fdOf K l.d.name) l.ps q.2.1 q.2.2 sh) G.calls)
    (hmx : ∀ (K : PySem.W.Frag) (mg : Str → Option Value), (∀ l ∈ lx, l.is K) → AllP (fun q r => ∃ l ∈ lx, l.cls = q.1 ∧ r.1 = l.fs.reverse ∧ q.2.1 ≤ 1000 ∧ BindI ⟨K, mg⟩ (fdX K l) l.ps l.fs q.2.1 q.2.2 r.2) G.mkx)
    (hlaw : ∀ ns : List Int, ns.length ≤ 63 → ∃ cs, callAt (tbOf nf G ls) k "law" [.fro (ns.map .int)] [] = .ok (.bl true) cs) :
    PySem.W.WalkO q loose XP YP l.row.toRowW d [] (fun f vs => PySem.call f vs) := by
  refine Att.attach_call hn hdf fun w s₀ s₁ mg mb fa o pm cd doc a vs ns GG Y ho hd hcd hmg hobj hints hlen hg => ?_
  obtain ⟨K, KX, c, hex⟩ := hY _ _ Y
  have his := ld_is hok c
  have hl := List.mem_of_getElem? hi
  have F := his ll hl
  have F2 : FunD K ll.d.name ll.d.name ll.d.params ll.d.body ll.d.scope [] (ll.d.kws K) (He.ga K ll.d.name) (fdOf K ll.d.name) := by
    have e : ll.d.dvs K = [] := by unfold He.DefD.dvs; rw [hdd]; rfl
    rw [← e]; exact F
  have b := F2.bindsA (ps := ll.ps) hb1
  rw [hps] at b
  have gl : mg "law" = some (.ref (He.ga K "law")) := by
    have z := He.glo_ok KX GG.T.g (x := ll.d.name) (by
      obtain ⟨j, hj⟩ := List.mem_iff_getElem?.mp (List.mem_append_left (G.free.map He.Fa.free) (List.mem_map_of_mem (f := fun l : LD => He.Fa.glo l.d.name) hl))
      exact c.fact j hj)
    rw [hll] at z
    exact z
  rw [hname, gl] at hmg
  cases hmg
  have D := fun base => defs_ok (P := l.prog) (w := w) (base := base) KX GG.T.g hok hlx nd c hex (hmx K mg (lx_is hlx c)) (hcal K mg his) k ll hl
  rw [hll] at D b
  rw [hps] at D
  refine law_callG KX GG.T.g GG.T.b GG.T.builtins GG.T.nolimit hg hobj hints (Nat.le_trans hlen (by decide)) hr D (fun s u => b s [u] rfl) (fun H hS => ?_) fun H e s' z => ?_
  · refine ⟨rfl, [.fro (ns.map .int)], ⟨[], []⟩, [], .cons (.val (.fro ?_ (ints_vrs ns))) .nil, ?_, ?_⟩
    · exact hS.imp (fun z => ⟨z, fun y => by rcases y with y | y <;> cases y⟩) id
    · exact ⟨rfl, fun i a e => by simp at e, fun i c e => by simp at e, fun i j a e => by simp at e, fun a e => by cases e⟩
    · obtain ⟨cs, e⟩ := hlaw ns hlen
      rw [e]
      intro m' H' _ _ u r
      exact r.bl
  · obtain ⟨_, _, _, _, _, _, _, _, _, _, _, _, y⟩ := z
    exact y
end Ps

set_option maxHeartbeats 2000000
/-! PsBind: how calls bind, with defaults and keywords. -/
namespace Ps
open PySem PySem.Spec L2 PyProof.Rows
/-- values and defaults in the parameters' order -/
def put {α : Type} (sh : List (Nat ⊕ Nat)) (us ds : List α) : List α := sh.filterMap fun
  | .inl i => us[i]?
  | .inr j => ds[j]?
def shOf (sh : List (Nat ⊕ Nat)) (dv : List Val) : List (Nat ⊕ Val) := sh.map fun
  | .inl i => .inl i
  | .inr j => .inr (dv.getD j .non)
def shOk (sh : List (Nat ⊕ Nat)) (n d : Nat) : Bool := sh.all fun
  | .inl i => decide (i < n)
  | .inr j => decide (j < d)
theorem put_len {α : Type} {us ds : List α} : ∀ {sh : List (Nat ⊕ Nat)}, shOk sh us.length ds.length = true → (put sh us ds).length = sh.length
  | [], _ => rfl
  | .inl i :: sh, h => by
    simp only [shOk, List.all_cons, Bool.and_eq_true, decide_eq_true_eq] at h
    have e : us[i]? = some us[i] := List.getElem?_eq_getElem h.1
    unfold put
    rw [List.filterMap_cons]
    simp only [e]
    exact congrArg Nat.succ (put_len (sh := sh) h.2)
  | .inr j :: sh, h => by
    simp only [shOk, List.all_cons, Bool.and_eq_true, decide_eq_true_eq] at h
    have e : ds[j]? = some ds[j] := List.getElem?_eq_getElem h.1
    unfold put
    rw [List.filterMap_cons]
    simp only [e]
    exact congrArg Nat.succ (put_len (sh := sh) h.2)
theorem vals_at {vs : List V} {us : List Value} (r : Vals vs us) : ∀ (i : Nat), (vs[i]? = none ∧ us[i]? = none) ∨ ∃ v u, vs[i]? = some v ∧ us[i]? = some u ∧ RelV v u := by
  induction r with
  | nil => exact fun i => .inl ⟨by simp, by simp⟩
  | cons h _ ih =>
    intro i
    cases i with
    | zero => exact .inr ⟨_, _, rfl, rfl, h⟩
    | succ i => simpa using ih i
theorem put_vals {vs ds : List V} {us es : List Value} (r : Vals vs us) (rd : Vals ds es) : ∀ (sh : List (Nat ⊕ Nat)), Vals (put sh vs ds) (put sh us es)
  | [] => .nil
  | .inl i :: sh => by
    unfold put
    rw [List.filterMap_cons, List.filterMap_cons]
    rcases vals_at r i with ⟨e1, e2⟩ | ⟨v, u, e1, e2, q⟩
    · simp only [e1, e2]; exact put_vals r rd sh
    · simp only [e1, e2]; exact .cons q (put_vals r rd sh)
  | .inr i :: sh => by
    unfold put
    rw [List.filterMap_cons, List.filterMap_cons]
    rcases vals_at rd i with ⟨e1, e2⟩ | ⟨v, u, e1, e2, q⟩
    · simp only [e1, e2]; exact put_vals r rd sh
    · simp only [e1, e2]; exact .cons q (put_vals r rd sh)
theorem ars_at {w : Wd} {m : MP} {H : Hp} : ∀ {vs : List Val} {us : List V}, ARs w m H vs us → ∀ {i : Nat} {v : Val}, vs[i]? = some v → ∃ u, us[i]? = some u ∧ AR w m H v u := by
  intro vs us r
  induction r with
  | nil => intro i v q; simp at q
  | cons h _ ih =>
    intro i v q
    cases i with
    | zero => simp at q; subst q; exact ⟨_, rfl, h⟩
    | succ i =>
      obtain ⟨u, e, r⟩ := ih (by simpa using q)
      exact ⟨u, by simpa using e, r⟩
theorem put_ars {w : Wd} {m : MP} {H : Hp} {vs dv : List Val} {us dV : List V} (r : ARs w m H vs us) (rd : VRs w m H dv dV) : ∀ {sh : List (Nat ⊕ Nat)} {vs' : List Val}, shOk sh vs.length dv.length = true → shape (shOf sh dv) vs = some vs' → ARs w m H vs' (put sh us dV)
  | [], vs', _, e => by
    have : vs' = [] := by simpa [shape, shOf] using e.symm
    subst this
    exact .nil
  | .inl i :: sh, vs', h, e => by
    simp only [shOk, List.all_cons, Bool.and_eq_true, decide_eq_true_eq] at h
    unfold shape shOf at e
    rw [List.map_cons, List.mapM_cons] at e
    simp only [Option.bind_eq_bind, Option.bind_eq_some_iff, Option.pure_def, Option.some.injEq] at e
    obtain ⟨a, e1, as, e2, rfl⟩ := e
    obtain ⟨u, q, ra⟩ := ars_at r e1
    unfold put
    rw [List.filterMap_cons]
    simp only [q]
    exact .cons ra (put_ars r rd h.2 e2)
  | .inr j :: sh, vs', h, e => by
    simp only [shOk, List.all_cons, Bool.and_eq_true, decide_eq_true_eq] at h
    unfold shape shOf at e
    rw [List.map_cons, List.mapM_cons] at e
    simp only [Option.bind_eq_bind, Option.bind_eq_some_iff, Option.pure_def, Option.some.injEq] at e
    obtain ⟨a, e1, as, e2, rfl⟩ := e
    have hj : dv[j]? = some a := by rw [← e1, List.getD_eq_getElem?_getD, List.getElem?_eq_getElem h.1]; rfl
    obtain ⟨u, q, ra⟩ := rd.get hj
    unfold put
    rw [List.filterMap_cons]
    simp only [q]
    exact .cons (.val ra) (put_ars r rd h.2 e2)
theorem bind_core {w : Wd} {fd : FuncData} {ps : List Str} {n : Nat} {ks : List Str} {sh : List (Nat ⊕ Nat)} {dv : List Val} {dV : List V} {dU : List Value} (hd : Vals dV dU) (hv : ∀ m H, VRs w m H dv dV) (hsh : shOk sh (n + ks.length) dv.length = true) (hl : sh.length = ps.length)
    (hto : ∀ (s : Shared) (us ws : List Value), w.K.In s.heap → us.length = n → ws.length = ks.length → BindsTo s fd ⟨us, ks.zip ws⟩ (ps.zip (put sh (us ++ ws) dU))) : BindOk w fd ps n ks (shOf sh dv) := by
  refine ⟨fun us ws => put sh (us ++ ws) dU, fun vs zs => put sh (vs ++ zs) dV, ⟨hto, fun r rz => put_vals (r.append rz) hd sh⟩, fun m H vs us zs ws vs' r rz l1 l2 e => ?_⟩
  have hdl := (hv m H).length
  have lv : (vs ++ zs).length = n + ks.length := by rw [List.length_append, r.length, rz.length, l1, l2]
  refine ⟨put_ars (r.append rz) (hv m H) (by rw [lv]; exact hsh) e, ?_⟩
  rw [put_len (by rw [List.length_append, l1, l2, ← hdl]; exact hsh), hl]
/-! ### by the def -/
def dvB : Val → He.Dv → Bool
  | .non, .non => true
  | .bl b, .bl c => b == c
  | .int i, .int j => decide (i = j)
  | .str x, .str y => decide (x = y)
  | _, _ => false
def dvsB : List Val → List He.Dv → Bool
  | [], [] => true
  | v :: vs, d :: ds => dvB v d && dvsB vs ds
  | _, _ => false
theorem dvB_ok {w : Wd} {m : MP} {H : Hp} {v : Val} {d : He.Dv} (h : dvB v d = true) : VR w m H v (d.v w.K) := by
  cases v <;> cases d <;> first
    | (simp [dvB] at h; done)
    | exact .non
    | (have e := eq_of_beq (show (_ == _) = true from h); subst e; exact .bl _)
    | (have e := of_decide_eq_true (show decide (_ = _) = true from h); subst e; exact .int _)
    | (have e := of_decide_eq_true (show decide (_ = _) = true from h); subst e; exact .str _)
theorem dvsB_ok {w : Wd} {m : MP} {H : Hp} : ∀ {vs : List Val} {ds : List He.Dv}, dvsB vs ds = true → VRs w m H vs (ds.map (He.Dv.v w.K))
  | [], [], _ => .nil
  | [], _ :: _, h => by cases h
  | _ :: _, [], h => by cases h
  | v :: vs, d :: ds, h => by
    have h' := Bool.and_eq_true_iff.mp (show (dvB v d && dvsB vs ds) = true from h)
    exact .cons (dvB_ok h'.1) (dvsB_ok h'.2)
theorem mem_ix {α : Type} {l : List α} (is : List Nat) : ∀ q ∈ is.filterMap (fun i => l[i]?), q ∈ l := fun q h => by
  obtain ⟨i, _, e⟩ := List.mem_filterMap.mp h
  exact List.mem_of_getElem? e
section
variable {K : PySem.W.Frag} {mg : Str → Option Value} {l : LD} {n : Nat} {ks : List Str} {sh : List (Nat ⊕ Nat)} {dv : List Val}
/-- no defaults are wanted, none stand -/
theorem bind00 (F : l.is K) (hd : l.d.dfl = []) (hsh : shOk sh (n + ks.length) 0 = true) (hl : sh.length = l.ps.length)
    (h : ∀ (kV doc pm : Value) (an : Option Addr) (cdv ct : Value) (us ws : List Value), us.length = n → ws.length = ks.length → bindArgs (PySem.W.fnOf l.d.name l.d.name l.d.params l.d.body l.d.scope .none kV doc pm an cdv ct) ⟨us, ks.zip ws⟩ = pure (l.ps.zip (put sh (us ++ ws) []))) :
    BindOk ⟨K, mg⟩ (fdOf K l.d.name) l.ps n ks (shOf sh []) := by
  obtain ⟨oc, od, dV, kV, doc, pm, an, cdv, ct, osl, e, lk, hcd, hD, hK⟩ := F.ex
  rw [e]
  refine bind_core (dU := []) (dV := []) .nil (fun _ _ => .nil) hsh hl fun s us ws X l1 l2 => ?_
  rcases hD with ⟨_, rfl⟩ | ⟨e, _⟩
  · exact BindsTo.of_eq (h kV doc pm an cdv ct us ws l1 l2)
  · exact absurd (by unfold He.DefD.dvs; rw [hd]; rfl) e
/-- some keyword-only defaults are wanted (ms), no others stand -/
theorem bind01 (F : l.is K) (ms : List (Str × He.Dv)) (hd : l.d.dfl = []) (hms : ∀ q ∈ ms, q ∈ l.d.kwd) (hk : l.d.kwd ≠ []) (hdv : dvsB dv (ms.map (·.2)) = true) (hsh : shOk sh (n + ks.length) dv.length = true) (hl : sh.length = l.ps.length)
    (h : ∀ (D : Addr) (doc pm : Value) (an : Option Addr) (cdv ct : Value) (us ws mv : List Value), us.length = n → ws.length = ks.length → mv.length = ms.length →
      KwChain D ((ms.map (·.1)).zip mv) (bindArgs (PySem.W.fnOf l.d.name l.d.name l.d.params l.d.body l.d.scope .none (.ref D) doc pm an cdv ct) ⟨us, ks.zip ws⟩) (l.ps.zip (put sh (us ++ ws) mv))) :
    BindOk ⟨K, mg⟩ (fdOf K l.d.name) l.ps n ks (shOf sh dv) := by
  obtain ⟨oc, od, dV, kV, doc, pm, an, cdv, ct, osl, e, lk, hcd, hD, hK⟩ := F.ex
  rw [e]
  rcases hD with ⟨_, rfl⟩ | ⟨e, _⟩
  · rcases hK with e | ⟨D, rfl, hq⟩
    · exact absurd (List.map_eq_nil_iff.mp e) hk
    · obtain ⟨mv, hl2, rk, hks⟩ := kwd_vals (ms := ms.map fun q => (q.1, q.2.v K)) fun q hm => hq q (by
        obtain ⟨p, hp, rfl⟩ := List.mem_map.mp hm
        exact List.mem_map_of_mem (f := fun q : Str × He.Dv => (q.1, q.2.v K)) (hms p hp))
      have e1 : (ms.map fun q => (q.1, q.2.v K)).map (·.1) = ms.map (·.1) := by simp [List.map_map, Function.comp_def]
      have e2 : (ms.map fun q => (q.1, q.2.v K)).map (·.2) = (ms.map (·.2)).map (He.Dv.v K) := by simp [List.map_map, Function.comp_def]
      rw [e1] at hks
      rw [e2] at rk
      rw [List.length_map] at hl2
      exact bind_core (dU := mv) rk (fun m H => dvsB_ok (w := ⟨K, mg⟩) hdv) hsh hl fun s us ws X l1 l2 => BindsTo.of_looks fun M => KwChain.looks X hks (h D doc pm an cdv ct us ws mv l1 l2 hl2)
  · exact absurd (by unfold He.DefD.dvs; rw [hd]; rfl) e
/-- positional defaults stand, no keyword-only one is wanted -/
theorem bind10 (F : l.is K) (hd : l.d.dfl ≠ []) (hdv : dvsB dv l.d.dfl = true) (hsh : shOk sh (n + ks.length) dv.length = true) (hl : sh.length = l.ps.length)
    (h : ∀ (T : Addr) (kV doc pm : Value) (an : Option Addr) (cdv ct : Value) (us ws its : List Value), us.length = n → ws.length = ks.length → its.length = l.d.dfl.length →
      ∃ k, bindArgs (PySem.W.fnOf l.d.name l.d.name l.d.params l.d.body l.d.scope (.ref T) kV doc pm an cdv ct) ⟨us, ks.zip ws⟩ = seqItems? (.ref T) >>= k ∧ k (some its.toArray) = pure (l.ps.zip (put sh (us ++ ws) its))) :
    BindOk ⟨K, mg⟩ (fdOf K l.d.name) l.ps n ks (shOf sh dv) := by
  obtain ⟨oc, od, dV, kV, doc, pm, an, cdv, ct, osl, e, lk, hcd, hD, hK⟩ := F.ex
  rw [e]
  rcases hD with ⟨e, _⟩ | ⟨_, T, o, its, m, rfl, lT, oT, rT⟩
  · exact absurd (List.map_eq_nil_iff.mp e) hd
  · refine bind_core (dU := its) (dV := l.d.dfl.map (He.Dv.v K)) rT (fun m H => dvsB_ok (w := ⟨K, mg⟩) hdv) hsh hl fun s us ws X l1 l2 => BindsTo.of_looks fun M => ?_
    obtain ⟨k, e1, e2⟩ := h T kV doc pm an cdv ct us ws its l1 l2 (rT.length.symm.trans (List.length_map _))
    rw [e1]
    exact looks_items X lT oT (.of_pure e2)
/-- both -/
theorem bind11 (F : l.is K) (ms : List (Str × He.Dv)) (hd : l.d.dfl ≠ []) (hms : ∀ q ∈ ms, q ∈ l.d.kwd) (hk : l.d.kwd ≠ []) (hdv : dvsB dv (l.d.dfl ++ ms.map (·.2)) = true) (hsh : shOk sh (n + ks.length) dv.length = true) (hl : sh.length = l.ps.length)
    (h : ∀ (T D : Addr) (doc pm : Value) (an : Option Addr) (cdv ct : Value) (us ws its mv : List Value), us.length = n → ws.length = ks.length → its.length = l.d.dfl.length → mv.length = ms.length →
      ∃ k, bindArgs (PySem.W.fnOf l.d.name l.d.name l.d.params l.d.body l.d.scope (.ref T) (.ref D) doc pm an cdv ct) ⟨us, ks.zip ws⟩ = seqItems? (.ref T) >>= k ∧ KwChain D ((ms.map (·.1)).zip mv) (k (some its.toArray)) (l.ps.zip (put sh (us ++ ws) (its ++ mv)))) :
    BindOk ⟨K, mg⟩ (fdOf K l.d.name) l.ps n ks (shOf sh dv) := by
  obtain ⟨oc, od, dV, kV, doc, pm, an, cdv, ct, osl, e, lk, hcd, hD, hK⟩ := F.ex
  rw [e]
  rcases hD with ⟨e, _⟩ | ⟨_, T, o, its, m, rfl, lT, oT, rT⟩
  · exact absurd (List.map_eq_nil_iff.mp e) hd
  · rcases hK with e | ⟨D, rfl, hq⟩
    · exact absurd (List.map_eq_nil_iff.mp e) hk
    · obtain ⟨mv, hl2, rk, hks⟩ := kwd_vals (ms := ms.map fun q => (q.1, q.2.v K)) fun q hm => hq q (by
        obtain ⟨p, hp, rfl⟩ := List.mem_map.mp hm
        exact List.mem_map_of_mem (f := fun q : Str × He.Dv => (q.1, q.2.v K)) (hms p hp))
      have e1 : (ms.map fun q => (q.1, q.2.v K)).map (·.1) = ms.map (·.1) := by simp [List.map_map, Function.comp_def]
      have e2 : (ms.map fun q => (q.1, q.2.v K)).map (·.2) = (ms.map (·.2)).map (He.Dv.v K) := by simp [List.map_map, Function.comp_def]
      rw [e1] at hks
      rw [e2] at rk
      rw [List.length_map] at hl2
      have hv := fun m H => dvsB_ok (w := ⟨K, mg⟩) (m := m) (H := H) hdv
      rw [List.map_append] at hv
      refine bind_core (dU := its ++ mv) (rT.append rk) hv hsh hl fun s us ws X l1 l2 => BindsTo.of_looks fun M => ?_
      obtain ⟨k, e1, e2⟩ := h T D doc pm an cdv ct us ws its mv l1 l2 (rT.length.symm.trans (List.length_map _)) hl2
      rw [e1]
      exact looks_items X lT oT (KwChain.looks X hks e2)
end
/-! ### an __init__ -/
theorem put_rev {α : Type} {us ds : List α} {sh : List (Nat ⊕ Nat)} : put sh.reverse us ds = (put sh us ds).reverse := List.filterMap_reverse
theorem shOk_rev {sh : List (Nat ⊕ Nat)} {n d : Nat} (h : shOk sh n d = true) : shOk sh.reverse n d = true := by
  unfold shOk at h ⊢
  rw [List.all_reverse]
  exact h
theorem bindX_core {w : Wd} {fd : FuncData} {ps fs : List Str} {n : Nat} {ks : List Str} {sh : List (Nat ⊕ Nat)} {dv : List Val} {dV : List V} {dU : List Value} (hd : Vals dV dU) (hv : ∀ m H, VRs w m H dv dV) (hsh : shOk sh (n + ks.length) dv.length = true) (hl : sh.length = fs.length)
    (hto : ∀ (s : Shared) (u : Value) (us ws : List Value), w.K.In s.heap → us.length = n → ws.length = ks.length → BindsTo s fd ⟨u :: us, ks.zip ws⟩ (ps.zip (u :: put sh (us ++ ws) dU))) : BindI w fd ps fs n ks (shOf sh.reverse dv) := by
  refine ⟨fun us ws => put sh (us ++ ws) dU, fun vs zs => put sh (vs ++ zs) dV, hto, fun r rz => put_vals (r.append rz) hd sh, fun m H vs us zs ws vs' r rz l1 l2 e => ?_⟩
  have hdl := (hv m H).length
  have lv : (vs ++ zs).length = n + ks.length := by rw [List.length_append, r.length, rz.length, l1, l2]
  refine ⟨?_, ?_⟩
  · rw [← put_rev]
    exact put_ars (r.append rz) (hv m H) (by rw [lv]; exact shOk_rev hsh) e
  · rw [put_len (by rw [List.length_append, l1, l2, ← hdl]; exact hsh), hl]
section
variable {K : PySem.W.Frag} {mg : Str → Option Value} {l : LX} {n : Nat} {ks : List Str} {sh : List (Nat ⊕ Nat)} {dv : List Val}
theorem bindX00 (F : l.is K) (hd : l.d.dfl = []) (hsh : shOk sh (n + ks.length) 0 = true) (hl : sh.length = l.fs.length)
    (h : ∀ (kV doc pm : Value) (an : Option Addr) (cdv ct u : Value) (us ws : List Value), us.length = n → ws.length = ks.length → bindArgs (PySem.W.fnOf "__init__" l.d.qual l.d.params l.d.body l.d.scope .none kV doc pm an cdv ct) ⟨u :: us, ks.zip ws⟩ = pure (l.ps.zip (u :: put sh (us ++ ws) []))) :
    BindI ⟨K, mg⟩ (fdX K l) l.ps l.fs n ks (shOf sh.reverse []) := by
  obtain ⟨oc, od, dV, kV, doc, pm, an, cdv, ct, osl, e, lk, hcd, hD, hK⟩ := F.ex
  rw [e]
  refine bindX_core (dU := []) (dV := []) .nil (fun _ _ => .nil) hsh hl fun s u us ws X l1 l2 => ?_
  rcases hD with ⟨_, rfl⟩ | ⟨e, _⟩
  · exact BindsTo.of_eq (h kV doc pm an cdv ct u us ws l1 l2)
  · exact absurd (by unfold He.DefD.dvs; rw [hd]; rfl) e
theorem bindX10 (F : l.is K) (hd : l.d.dfl ≠ []) (hdv : dvsB dv l.d.dfl = true) (hsh : shOk sh (n + ks.length) dv.length = true) (hl : sh.length = l.fs.length)
    (h : ∀ (T : Addr) (kV doc pm : Value) (an : Option Addr) (cdv ct u : Value) (us ws its : List Value), us.length = n → ws.length = ks.length → its.length = l.d.dfl.length →
      ∃ k, bindArgs (PySem.W.fnOf "__init__" l.d.qual l.d.params l.d.body l.d.scope (.ref T) kV doc pm an cdv ct) ⟨u :: us, ks.zip ws⟩ = seqItems? (.ref T) >>= k ∧ k (some its.toArray) = pure (l.ps.zip (u :: put sh (us ++ ws) its))) :
    BindI ⟨K, mg⟩ (fdX K l) l.ps l.fs n ks (shOf sh.reverse dv) := by
  obtain ⟨oc, od, dV, kV, doc, pm, an, cdv, ct, osl, e, lk, hcd, hD, hK⟩ := F.ex
  rw [e]
  rcases hD with ⟨e, _⟩ | ⟨_, T, o, its, m, rfl, lT, oT, rT⟩
  · exact absurd (List.map_eq_nil_iff.mp e) hd
  · refine bindX_core (dU := its) (dV := l.d.dfl.map (He.Dv.v K)) rT (fun m H => dvsB_ok (w := ⟨K, mg⟩) hdv) hsh hl fun s u us ws X l1 l2 => BindsTo.of_looks fun M => ?_
    obtain ⟨k, e1, e2⟩ := h T kV doc pm an cdv ct u us ws its l1 l2 (rT.length.symm.trans (List.length_map _))
    rw [e1]
    exact looks_items X lT oT (.of_pure e2)
end
end Ps

set_option maxHeartbeats 0
namespace K05
open PySem PySem.Spec PyProof.Rows L2 Ps
def top (i : Nat) : Stmt := PySem.Challenge.pw_panelworks_k05_refusals_by_hand.main.body.getD i (.Pass ⟨0, 0, 0, 0⟩)
def mem (i j : Nat) : Stmt := match top i with
  | .ClassDef _ _ _ b _ _ _ _ _ _ _ => b.getD j (.Pass ⟨0, 0, 0, 0⟩)
  | _ => .Pass ⟨0, 0, 0, 0⟩
def d0 : LD := ⟨⟨("_law_mixed", none), "_law_mixed", "_law_mixed", defArgs (top 29), defBody (top 29), defScope (top 29), [], []⟩, ["_law_cell", "_law_k", "_law_mixed_here"], ["_law_cell", "_law_k"], []⟩
def d1 : LD := ⟨⟨("_law_draw", none), "_law_draw", "_law_draw", defArgs (top 30), defBody (top 30), defScope (top 30), [], []⟩, ["_law_cell", "_law_k"], ["_law_cell", "_law_k"], []⟩
def d2 : LD := ⟨⟨("_law_digit", none), "_law_digit", "_law_digit", defArgs (top 31), defBody (top 31), defScope (top 31), [], []⟩, ["_law_state", "_law_many", "_law_found", "_law_j"], ["_law_state", "_law_many"], []⟩
def d3 : LD := ⟨⟨("_law_word", none), "_law_word", "_law_word", defArgs (top 32), defBody (top 32), defScope (top 32), [], []⟩, ["_law_state", "_law_signs", "_law_some", "_law_j"], ["_law_state"], []⟩
def d4 : LD := ⟨⟨("_law_names", none), "_law_names", "_law_names", defArgs (top 33), defBody (top 33), defScope (top 33), [], []⟩, ["_law_state", "_law_many", "_law_found", "_law_j", "_law_some", "_law_one"], ["_law_state", "_law_many"], ["_law_found"]⟩
def d5 : LD := ⟨⟨("_law_kinds", none), "_law_kinds", "_law_kinds", defArgs (top 34), defBody (top 34), defScope (top 34), [], []⟩, ["_law_error", "_law_kinds_here", "_law_kind", "_law_holds"], ["_law_error"], []⟩
def d6 : LD := ⟨⟨("_law_by_hand", none), "_law_by_hand", "_law_by_hand", defArgs (top 35), defBody (top 35), defScope (top 35), [], []⟩, ["_law_figure", "_law_sign", "_law_made", "_law_told", "_law_more", "_law_far", "_law_names_here", "_law_due", "_law_kind", "_law_error"], ["_law_figure", "_law_sign"], []⟩
def d7 : LD := ⟨⟨("_law_left_out", none), "_law_left_out", "_law_left_out", defArgs (top 36), defBody (top 36), defScope (top 36), [], []⟩, ["_law_figure", "_law_sign", "_law_made", "_law_told", "_law_error"], ["_law_figure", "_law_sign"], []⟩
def d8 : LD := ⟨⟨("law", none), "law", "law", defArgs (top 37), defBody (top 37), defScope (top 37), [], []⟩, ["_law_script", "_law_k", "_law_cell", "_law_state", "_law_figure", "_law_sign"], ["_law_script"], []⟩
def ls : List LD := [d0, d1, d2, d3, d4, d5, d6, d7, d8]
def x0 : LX := ⟨"BadRow", ⟨("BadRow", some ("__init__" : Str)), "__init__", "BadRow.__init__", defArgs (mem 2 0), defBody (mem 2 0), defScope (mem 2 0), [], []⟩, ["self", "row", "word"], ["row", "word"], "WorksError", "ValueError"⟩
def x1 : LX := ⟨"BadSketch", ⟨("BadSketch", some ("__init__" : Str)), "__init__", "BadSketch.__init__", defArgs (mem 3 0), defBody (mem 3 0), defScope (mem 3 0), [.non, .non], []⟩, ["self", "part", "number"], ["part", "number"], "WorksError", "ValueError"⟩
def x2 : LX := ⟨"BadBlock", ⟨("BadBlock", some ("__init__" : Str)), "__init__", "BadBlock.__init__", defArgs (mem 4 0), defBody (mem 4 0), defScope (mem 4 0), [.non], []⟩, ["self", "place"], ["place"], "WorksError", "ValueError"⟩
def x3 : LX := ⟨"BadOutline", ⟨("BadOutline", some ("__init__" : Str)), "__init__", "BadOutline.__init__", defArgs (mem 5 0), defBody (mem 5 0), defScope (mem 5 0), [.non], []⟩, ["self", "number"], ["number"], "WorksError", "ValueError"⟩
def x4 : LX := ⟨"BadFeature", ⟨("BadFeature", some ("__init__" : Str)), "__init__", "BadFeature.__init__", defArgs (mem 6 0), defBody (mem 6 0), defScope (mem 6 0), [.non], []⟩, ["self", "number"], ["number"], "WorksError", "ValueError"⟩
def x5 : LX := ⟨"BadField", ⟨("BadField", some ("__init__" : Str)), "__init__", "BadField.__init__", defArgs (mem 7 0), defBody (mem 7 0), defScope (mem 7 0), [.non], []⟩, ["self", "place"], ["place"], "WorksError", "ValueError"⟩
def x6 : LX := ⟨"BadTools", ⟨("BadTools", some ("__init__" : Str)), "__init__", "BadTools.__init__", defArgs (mem 8 0), defBody (mem 8 0), defScope (mem 8 0), [.non], []⟩, ["self", "number"], ["number"], "WorksError", "ValueError"⟩
def x7 : LX := ⟨"BadWay", ⟨("BadWay", some ("__init__" : Str)), "__init__", "BadWay.__init__", defArgs (mem 9 0), defBody (mem 9 0), defScope (mem 9 0), [.non], []⟩, ["self", "number"], ["number"], "WorksError", "ValueError"⟩
def x8 : LX := ⟨"BadPaper", ⟨("BadPaper", some ("__init__" : Str)), "__init__", "BadPaper.__init__", defArgs (mem 10 0), defBody (mem 10 0), defScope (mem 10 0), [.non], []⟩, ["self", "place"], ["place"], "WorksError", "ValueError"⟩
def x9 : LX := ⟨"Clash", ⟨("Clash", some ("__init__" : Str)), "__init__", "Clash.__init__", defArgs (mem 11 0), defBody (mem 11 0), defScope (mem 11 0), [], []⟩, ["self", "number"], ["number"], "WorksError", "ValueError"⟩
def x10 : LX := ⟨"NoPoint", ⟨("NoPoint", some ("__init__" : Str)), "__init__", "NoPoint.__init__", defArgs (mem 16 0), defBody (mem 16 0), defScope (mem 16 0), [], []⟩, ["self", "name"], ["name"], "MissError", "LookupError"⟩
def x11 : LX := ⟨"NoSaying", ⟨("NoSaying", some ("__init__" : Str)), "__init__", "NoSaying.__init__", defArgs (mem 17 0), defBody (mem 17 0), defScope (mem 17 0), [], []⟩, ["self", "number"], ["number"], "MissError", "LookupError"⟩
def x12 : LX := ⟨"NoFeature", ⟨("NoFeature", some ("__init__" : Str)), "__init__", "NoFeature.__init__", defArgs (mem 18 0), defBody (mem 18 0), defScope (mem 18 0), [], []⟩, ["self", "number"], ["number"], "MissError", "LookupError"⟩
def x13 : LX := ⟨"NoTool", ⟨("NoTool", some ("__init__" : Str)), "__init__", "NoTool.__init__", defArgs (mem 19 0), defBody (mem 19 0), defScope (mem 19 0), [], []⟩, ["self", "tool"], ["tool"], "MissError", "LookupError"⟩
def x14 : LX := ⟨"Beyond", ⟨("Beyond", some ("__init__" : Str)), "__init__", "Beyond.__init__", defArgs (mem 25 0), defBody (mem 25 0), defScope (mem 25 0), [], []⟩, ["self", "place"], ["place"], "FaultError", "RuntimeError"⟩
def x15 : LX := ⟨"Blocked", ⟨("Blocked", some ("__init__" : Str)), "__init__", "Blocked.__init__", defArgs (mem 26 0), defBody (mem 26 0), defScope (mem 26 0), [], []⟩, ["self", "place"], ["place"], "FaultError", "RuntimeError"⟩
def x16 : LX := ⟨"TooDeep", ⟨("TooDeep", some ("__init__" : Str)), "__init__", "TooDeep.__init__", defArgs (mem 27 0), defBody (mem 27 0), defScope (mem 27 0), [], []⟩, ["self", "place"], ["place"], "FaultError", "RuntimeError"⟩
def lx : List LX := [x0, x1, x2, x3, x4, x5, x6, x7, x8, x9, x10, x11, x12, x13, x14, x15, x16]
def Gc : List ((Str × Nat × List Str) × List (Nat ⊕ Val)) := (("_law_mixed", 2, []), [.inl 0, .inl 1]) :: (("_law_digit", 2, []), [.inl 0, .inl 1]) :: (("_law_word", 1, []), [.inl 0]) :: (("_law_kinds", 1, []), [.inl 0]) :: (("_law_draw", 2, []), [.inl 0, .inl 1]) :: (("_law_by_hand", 2, []), [.inl 0, .inl 1]) :: (("_law_left_out", 2, []), [.inl 0, .inl 1]) :: []
def Gi : List (Str × List (Str × Bool)) := ("WorksError", [("BadRow", true), ("BadSketch", true), ("BadBlock", true), ("BadOutline", true), ("BadFeature", true), ("BadField", true), ("BadTools", true), ("BadWay", true), ("BadPaper", true), ("Clash", true), ("Twice", true), ("OutOfPlace", true), ("TooGreat", true), ("NoPoint", false), ("NoSaying", false), ("NoFeature", false), ("NoTool", false), ("Nothing", false), ("NoToolThere", false), ("Lifted", false), ("Lowered", false), ("Beyond", false), ("Blocked", false), ("TooDeep", false)]) :: ("BadRow", [("BadRow", true), ("BadSketch", false), ("BadBlock", false), ("BadOutline", false), ("BadFeature", false), ("BadField", false), ("BadTools", false), ("BadWay", false), ("BadPaper", false), ("Clash", false), ("Twice", false), ("OutOfPlace", false), ("TooGreat", false), ("NoPoint", false), ("NoSaying", false), ("NoFeature", false), ("NoTool", false), ("Nothing", false), ("NoToolThere", false), ("Lifted", false), ("Lowered", false), ("Beyond", false), ("Blocked", false), ("TooDeep", false)]) :: ("BadSketch", [("BadRow", false), ("BadSketch", true), ("BadBlock", false), ("BadOutline", false), ("BadFeature", false), ("BadField", false), ("BadTools", false), ("BadWay", false), ("BadPaper", false), ("Clash", false), ("Twice", false), ("OutOfPlace", false), ("TooGreat", false), ("NoPoint", false), ("NoSaying", false), ("NoFeature", false), ("NoTool", false), ("Nothing", false), ("NoToolThere", false), ("Lifted", false), ("Lowered", false), ("Beyond", false), ("Blocked", false), ("TooDeep", false)]) :: ("BadBlock", [("BadRow", false), ("BadSketch", false), ("BadBlock", true), ("BadOutline", false), ("BadFeature", false), ("BadField", false), ("BadTools", false), ("BadWay", false), ("BadPaper", false), ("Clash", false), ("Twice", false), ("OutOfPlace", false), ("TooGreat", false), ("NoPoint", false), ("NoSaying", false), ("NoFeature", false), ("NoTool", false), ("Nothing", false), ("NoToolThere", false), ("Lifted", false), ("Lowered", false), ("Beyond", false), ("Blocked", false), ("TooDeep", false)]) :: ("BadOutline", [("BadRow", false), ("BadSketch", false), ("BadBlock", false), ("BadOutline", true), ("BadFeature", false), ("BadField", false), ("BadTools", false), ("BadWay", false), ("BadPaper", false), ("Clash", false), ("Twice", false), ("OutOfPlace", false), ("TooGreat", false), ("NoPoint", false), ("NoSaying", false), ("NoFeature", false), ("NoTool", false), ("Nothing", false), ("NoToolThere", false), ("Lifted", false), ("Lowered", false), ("Beyond", false), ("Blocked", false), ("TooDeep", false)]) :: ("BadFeature", [("BadRow", false), ("BadSketch", false), ("BadBlock", false), ("BadOutline", false), ("BadFeature", true), ("BadField", false), ("BadTools", false), ("BadWay", false), ("BadPaper", false), ("Clash", false), ("Twice", false), ("OutOfPlace", false), ("TooGreat", false), ("NoPoint", false), ("NoSaying", false), ("NoFeature", false), ("NoTool", false), ("Nothing", false), ("NoToolThere", false), ("Lifted", false), ("Lowered", false), ("Beyond", false), ("Blocked", false), ("TooDeep", false)]) :: ("BadField", [("BadRow", false), ("BadSketch", false), ("BadBlock", false), ("BadOutline", false), ("BadFeature", false), ("BadField", true), ("BadTools", false), ("BadWay", false), ("BadPaper", false), ("Clash", false), ("Twice", false), ("OutOfPlace", false), ("TooGreat", false), ("NoPoint", false), ("NoSaying", false), ("NoFeature", false), ("NoTool", false), ("Nothing", false), ("NoToolThere", false), ("Lifted", false), ("Lowered", false), ("Beyond", false), ("Blocked", false), ("TooDeep", false)]) :: ("BadTools", [("BadRow", false), ("BadSketch", false), ("BadBlock", false), ("BadOutline", false), ("BadFeature", false), ("BadField", false), ("BadTools", true), ("BadWay", false), ("BadPaper", false), ("Clash", false), ("Twice", false), ("OutOfPlace", false), ("TooGreat", false), ("NoPoint", false), ("NoSaying", false), ("NoFeature", false), ("NoTool", false), ("Nothing", false), ("NoToolThere", false), ("Lifted", false), ("Lowered", false), ("Beyond", false), ("Blocked", false), ("TooDeep", false)]) :: ("BadWay", [("BadRow", false), ("BadSketch", false), ("BadBlock", false), ("BadOutline", false), ("BadFeature", false), ("BadField", false), ("BadTools", false), ("BadWay", true), ("BadPaper", false), ("Clash", false), ("Twice", false), ("OutOfPlace", false), ("TooGreat", false), ("NoPoint", false), ("NoSaying", false), ("NoFeature", false), ("NoTool", false), ("Nothing", false), ("NoToolThere", false), ("Lifted", false), ("Lowered", false), ("Beyond", false), ("Blocked", false), ("TooDeep", false)]) :: ("BadPaper", [("BadRow", false), ("BadSketch", false), ("BadBlock", false), ("BadOutline", false), ("BadFeature", false), ("BadField", false), ("BadTools", false), ("BadWay", false), ("BadPaper", true), ("Clash", false), ("Twice", false), ("OutOfPlace", false), ("TooGreat", false), ("NoPoint", false), ("NoSaying", false), ("NoFeature", false), ("NoTool", false), ("Nothing", false), ("NoToolThere", false), ("Lifted", false), ("Lowered", false), ("Beyond", false), ("Blocked", false), ("TooDeep", false)]) :: ("Clash", [("BadRow", false), ("BadSketch", false), ("BadBlock", false), ("BadOutline", false), ("BadFeature", false), ("BadField", false), ("BadTools", false), ("BadWay", false), ("BadPaper", false), ("Clash", true), ("Twice", false), ("OutOfPlace", false), ("TooGreat", false), ("NoPoint", false), ("NoSaying", false), ("NoFeature", false), ("NoTool", false), ("Nothing", false), ("NoToolThere", false), ("Lifted", false), ("Lowered", false), ("Beyond", false), ("Blocked", false), ("TooDeep", false)]) :: ("Twice", [("BadRow", false), ("BadSketch", false), ("BadBlock", false), ("BadOutline", false), ("BadFeature", false), ("BadField", false), ("BadTools", false), ("BadWay", false), ("BadPaper", false), ("Clash", false), ("Twice", true), ("OutOfPlace", false), ("TooGreat", false), ("NoPoint", false), ("NoSaying", false), ("NoFeature", false), ("NoTool", false), ("Nothing", false), ("NoToolThere", false), ("Lifted", false), ("Lowered", false), ("Beyond", false), ("Blocked", false), ("TooDeep", false)]) :: ("OutOfPlace", [("BadRow", false), ("BadSketch", false), ("BadBlock", false), ("BadOutline", false), ("BadFeature", false), ("BadField", false), ("BadTools", false), ("BadWay", false), ("BadPaper", false), ("Clash", false), ("Twice", false), ("OutOfPlace", true), ("TooGreat", false), ("NoPoint", false), ("NoSaying", false), ("NoFeature", false), ("NoTool", false), ("Nothing", false), ("NoToolThere", false), ("Lifted", false), ("Lowered", false), ("Beyond", false), ("Blocked", false), ("TooDeep", false)]) :: ("TooGreat", [("BadRow", false), ("BadSketch", false), ("BadBlock", false), ("BadOutline", false), ("BadFeature", false), ("BadField", false), ("BadTools", false), ("BadWay", false), ("BadPaper", false), ("Clash", false), ("Twice", false), ("OutOfPlace", false), ("TooGreat", true), ("NoPoint", false), ("NoSaying", false), ("NoFeature", false), ("NoTool", false), ("Nothing", false), ("NoToolThere", false), ("Lifted", false), ("Lowered", false), ("Beyond", false), ("Blocked", false), ("TooDeep", false)]) :: ("MissError", [("BadRow", false), ("BadSketch", false), ("BadBlock", false), ("BadOutline", false), ("BadFeature", false), ("BadField", false), ("BadTools", false), ("BadWay", false), ("BadPaper", false), ("Clash", false), ("Twice", false), ("OutOfPlace", false), ("TooGreat", false), ("NoPoint", true), ("NoSaying", true), ("NoFeature", true), ("NoTool", true), ("Nothing", true), ("NoToolThere", false), ("Lifted", false), ("Lowered", false), ("Beyond", false), ("Blocked", false), ("TooDeep", false)]) :: ("NoPoint", [("BadRow", false), ("BadSketch", false), ("BadBlock", false), ("BadOutline", false), ("BadFeature", false), ("BadField", false), ("BadTools", false), ("BadWay", false), ("BadPaper", false), ("Clash", false), ("Twice", false), ("OutOfPlace", false), ("TooGreat", false), ("NoPoint", true), ("NoSaying", false), ("NoFeature", false), ("NoTool", false), ("Nothing", false), ("NoToolThere", false), ("Lifted", false), ("Lowered", false), ("Beyond", false), ("Blocked", false), ("TooDeep", false)]) :: ("NoSaying", [("BadRow", false), ("BadSketch", false), ("BadBlock", false), ("BadOutline", false), ("BadFeature", false), ("BadField", false), ("BadTools", false), ("BadWay", false), ("BadPaper", false), ("Clash", false), ("Twice", false), ("OutOfPlace", false), ("TooGreat", false), ("NoPoint", false), ("NoSaying", true), ("NoFeature", false), ("NoTool", false), ("Nothing", false), ("NoToolThere", false), ("Lifted", false), ("Lowered", false), ("Beyond", false), ("Blocked", false), ("TooDeep", false)]) :: ("NoFeature", [("BadRow", false), ("BadSketch", false), ("BadBlock", false), ("BadOutline", false), ("BadFeature", false), ("BadField", false), ("BadTools", false), ("BadWay", false), ("BadPaper", false), ("Clash", false), ("Twice", false), ("OutOfPlace", false), ("TooGreat", false), ("NoPoint", false), ("NoSaying", false), ("NoFeature", true), ("NoTool", false), ("Nothing", false), ("NoToolThere", false), ("Lifted", false), ("Lowered", false), ("Beyond", false), ("Blocked", false), ("TooDeep", false)]) :: ("NoTool", [("BadRow", false), ("BadSketch", false), ("BadBlock", false), ("BadOutline", false), ("BadFeature", false), ("BadField", false), ("BadTools", false), ("BadWay", false), ("BadPaper", false), ("Clash", false), ("Twice", false), ("OutOfPlace", false), ("TooGreat", false), ("NoPoint", false), ("NoSaying", false), ("NoFeature", false), ("NoTool", true), ("Nothing", false), ("NoToolThere", false), ("Lifted", false), ("Lowered", false), ("Beyond", false), ("Blocked", false), ("TooDeep", false)]) :: ("Nothing", [("BadRow", false), ("BadSketch", false), ("BadBlock", false), ("BadOutline", false), ("BadFeature", false), ("BadField", false), ("BadTools", false), ("BadWay", false), ("BadPaper", false), ("Clash", false), ("Twice", false), ("OutOfPlace", false), ("TooGreat", false), ("NoPoint", false), ("NoSaying", false), ("NoFeature", false), ("NoTool", false), ("Nothing", true), ("NoToolThere", false), ("Lifted", false), ("Lowered", false), ("Beyond", false), ("Blocked", false), ("TooDeep", false)]) :: ("FaultError", [("BadRow", false), ("BadSketch", false), ("BadBlock", false), ("BadOutline", false), ("BadFeature", false), ("BadField", false), ("BadTools", false), ("BadWay", false), ("BadPaper", false), ("Clash", false), ("Twice", false), ("OutOfPlace", false), ("TooGreat", false), ("NoPoint", false), ("NoSaying", false), ("NoFeature", false), ("NoTool", false), ("Nothing", false), ("NoToolThere", true), ("Lifted", true), ("Lowered", true), ("Beyond", true), ("Blocked", true), ("TooDeep", true)]) :: ("NoToolThere", [("BadRow", false), ("BadSketch", false), ("BadBlock", false), ("BadOutline", false), ("BadFeature", false), ("BadField", false), ("BadTools", false), ("BadWay", false), ("BadPaper", false), ("Clash", false), ("Twice", false), ("OutOfPlace", false), ("TooGreat", false), ("NoPoint", false), ("NoSaying", false), ("NoFeature", false), ("NoTool", false), ("Nothing", false), ("NoToolThere", true), ("Lifted", false), ("Lowered", false), ("Beyond", false), ("Blocked", false), ("TooDeep", false)]) :: ("Lifted", [("BadRow", false), ("BadSketch", false), ("BadBlock", false), ("BadOutline", false), ("BadFeature", false), ("BadField", false), ("BadTools", false), ("BadWay", false), ("BadPaper", false), ("Clash", false), ("Twice", false), ("OutOfPlace", false), ("TooGreat", false), ("NoPoint", false), ("NoSaying", false), ("NoFeature", false), ("NoTool", false), ("Nothing", false), ("NoToolThere", false), ("Lifted", true), ("Lowered", false), ("Beyond", false), ("Blocked", false), ("TooDeep", false)]) :: ("Lowered", [("BadRow", false), ("BadSketch", false), ("BadBlock", false), ("BadOutline", false), ("BadFeature", false), ("BadField", false), ("BadTools", false), ("BadWay", false), ("BadPaper", false), ("Clash", false), ("Twice", false), ("OutOfPlace", false), ("TooGreat", false), ("NoPoint", false), ("NoSaying", false), ("NoFeature", false), ("NoTool", false), ("Nothing", false), ("NoToolThere", false), ("Lifted", false), ("Lowered", true), ("Beyond", false), ("Blocked", false), ("TooDeep", false)]) :: ("Beyond", [("BadRow", false), ("BadSketch", false), ("BadBlock", false), ("BadOutline", false), ("BadFeature", false), ("BadField", false), ("BadTools", false), ("BadWay", false), ("BadPaper", false), ("Clash", false), ("Twice", false), ("OutOfPlace", false), ("TooGreat", false), ("NoPoint", false), ("NoSaying", false), ("NoFeature", false), ("NoTool", false), ("Nothing", false), ("NoToolThere", false), ("Lifted", false), ("Lowered", false), ("Beyond", true), ("Blocked", false), ("TooDeep", false)]) :: ("Blocked", [("BadRow", false), ("BadSketch", false), ("BadBlock", false), ("BadOutline", false), ("BadFeature", false), ("BadField", false), ("BadTools", false), ("BadWay", false), ("BadPaper", false), ("Clash", false), ("Twice", false), ("OutOfPlace", false), ("TooGreat", false), ("NoPoint", false), ("NoSaying", false), ("NoFeature", false), ("NoTool", false), ("Nothing", false), ("NoToolThere", false), ("Lifted", false), ("Lowered", false), ("Beyond", false), ("Blocked", true), ("TooDeep", false)]) :: ("TooDeep", [("BadRow", false), ("BadSketch", false), ("BadBlock", false), ("BadOutline", false), ("BadFeature", false), ("BadField", false), ("BadTools", false), ("BadWay", false), ("BadPaper", false), ("Clash", false), ("Twice", false), ("OutOfPlace", false), ("TooGreat", false), ("NoPoint", false), ("NoSaying", false), ("NoFeature", false), ("NoTool", false), ("Nothing", false), ("NoToolThere", false), ("Lifted", false), ("Lowered", false), ("Beyond", false), ("Blocked", false), ("TooDeep", true)]) :: ("ValueError", [("BadRow", true), ("BadSketch", true), ("BadBlock", true), ("BadOutline", true), ("BadFeature", true), ("BadField", true), ("BadTools", true), ("BadWay", true), ("BadPaper", true), ("Clash", true), ("Twice", true), ("OutOfPlace", true), ("TooGreat", true), ("NoPoint", false), ("NoSaying", false), ("NoFeature", false), ("NoTool", false), ("Nothing", false), ("NoToolThere", false), ("Lifted", false), ("Lowered", false), ("Beyond", false), ("Blocked", false), ("TooDeep", false)]) :: ("LookupError", [("BadRow", false), ("BadSketch", false), ("BadBlock", false), ("BadOutline", false), ("BadFeature", false), ("BadField", false), ("BadTools", false), ("BadWay", false), ("BadPaper", false), ("Clash", false), ("Twice", false), ("OutOfPlace", false), ("TooGreat", false), ("NoPoint", true), ("NoSaying", true), ("NoFeature", true), ("NoTool", true), ("Nothing", true), ("NoToolThere", false), ("Lifted", false), ("Lowered", false), ("Beyond", false), ("Blocked", false), ("TooDeep", false)]) :: ("RuntimeError", [("BadRow", false), ("BadSketch", false), ("BadBlock", false), ("BadOutline", false), ("BadFeature", false), ("BadField", false), ("BadTools", false), ("BadWay", false), ("BadPaper", false), ("Clash", false), ("Twice", false), ("OutOfPlace", false), ("TooGreat", false), ("NoPoint", false), ("NoSaying", false), ("NoFeature", false), ("NoTool", false), ("Nothing", false), ("NoToolThere", true), ("Lifted", true), ("Lowered", true), ("Beyond", true), ("Blocked", true), ("TooDeep", true)]) :: []
def Gm : List ((Str × Nat × List Str) × (List Str × List (Nat ⊕ Val))) := (("BadRow", 2, []), (["word", "row"], [.inl 1, .inl 0])) :: (("BadSketch", 2, []), (["number", "part"], [.inl 1, .inl 0])) :: (("BadBlock", 1, []), (["place"], [.inl 0])) :: (("BadOutline", 1, []), (["number"], [.inl 0])) :: (("BadFeature", 1, []), (["number"], [.inl 0])) :: (("BadField", 1, []), (["place"], [.inl 0])) :: (("BadTools", 1, []), (["number"], [.inl 0])) :: (("BadWay", 1, []), (["number"], [.inl 0])) :: (("BadPaper", 1, []), (["place"], [.inl 0])) :: (("Clash", 1, []), (["number"], [.inl 0])) :: (("NoPoint", 1, []), (["name"], [.inl 0])) :: (("NoSaying", 1, []), (["number"], [.inl 0])) :: (("NoFeature", 1, []), (["number"], [.inl 0])) :: (("NoTool", 1, []), (["tool"], [.inl 0])) :: (("Beyond", 1, []), (["place"], [.inl 0])) :: (("Blocked", 1, []), (["place"], [.inl 0])) :: (("TooDeep", 1, []), (["place"], [.inl 0])) :: (("BadSketch", 0, []), (["number", "part"], [.inr (.non), .inr (.non)])) :: (("BadSketch", 1, []), (["number", "part"], [.inr (.non), .inl 0])) :: (("BadSketch", 0, ["part"]), (["number", "part"], [.inr (.non), .inl 0])) :: (("BadOutline", 0, []), (["number"], [.inr (.non)])) :: (("BadFeature", 0, []), (["number"], [.inr (.non)])) :: (("BadTools", 0, []), (["number"], [.inr (.non)])) :: (("BadWay", 0, []), (["number"], [.inr (.non)])) :: (("BadRow", 0, ["word", "row"]), (["word", "row"], [.inl 0, .inl 1])) :: (("BadSketch", 0, ["number", "part"]), (["number", "part"], [.inl 0, .inl 1])) :: (("BadBlock", 0, []), (["place"], [.inr (.non)])) :: (("BadField", 0, []), (["place"], [.inr (.non)])) :: (("BadPaper", 0, []), (["place"], [.inr (.non)])) :: (("BadBlock", 0, ["place"]), (["place"], [.inl 0])) :: (("BadOutline", 0, ["number"]), (["number"], [.inl 0])) :: (("BadFeature", 0, ["number"]), (["number"], [.inl 0])) :: (("BadField", 0, ["place"]), (["place"], [.inl 0])) :: (("BadTools", 0, ["number"]), (["number"], [.inl 0])) :: (("BadWay", 0, ["number"]), (["number"], [.inl 0])) :: (("BadPaper", 0, ["place"]), (["place"], [.inl 0])) :: (("Clash", 0, ["number"]), (["number"], [.inl 0])) :: (("NoSaying", 0, ["number"]), (["number"], [.inl 0])) :: (("NoFeature", 0, ["number"]), (["number"], [.inl 0])) :: (("NoTool", 0, ["tool"]), (["tool"], [.inl 0])) :: (("Beyond", 0, ["place"]), (["place"], [.inl 0])) :: (("Blocked", 0, ["place"]), (["place"], [.inl 0])) :: (("TooDeep", 0, ["place"]), (["place"], [.inl 0])) :: (("NoPoint", 0, ["name"]), (["name"], [.inl 0])) :: []
def G : Gv := ⟨[], ["LookupError", "RuntimeError", "ValueError", "enumerate", "isinstance", "list", "range", "sum"], Gc, Gi, [("Twice", "ValueError"), ("OutOfPlace", "ValueError"), ("TooGreat", "ValueError"), ("Nothing", "LookupError"), ("NoToolThere", "RuntimeError"), ("Lifted", "RuntimeError"), ("Lowered", "RuntimeError")], Gm, [("row", ["BadRow"]), ("word", ["BadRow"]), ("part", ["BadSketch"]), ("number", ["BadSketch", "BadOutline", "BadFeature", "BadTools", "BadWay", "Clash", "NoSaying", "NoFeature"]), ("place", ["BadBlock", "BadField", "BadPaper", "Beyond", "Blocked", "TooDeep"]), ("name", ["NoPoint"]), ("tool", ["NoTool"])]⟩
abbrev R : PySem.W.OpenRow := PySem.W.OpenLaw.row PySem.Challenge.rw_panelworks_k05_refusals_by_hand
abbrev hk : PySem.W.Hook := hookP 5 (faOf ls G) (fnsOf ls lx) (exG G lx)
def ob (s : PySem.W.SharedT) : Bool × He.AlD := obsP 5 (faOf ls G) (fnsOf ls lx) (exG G lx) (HandSHeadRun.getT s)
theorem ob_eq (s : PySem.W.SharedT) : ob s = hk.obs s.abs := obsP_eq (HandSHeadRun.getT_eq s)
def loose : List PySem.Str := (["_law_mixed", "_law_draw", "_law_digit", "_law_word", "_law_names", "_law_kinds", "_law_by_hand", "_law_left_out", "WorksError", "BadRow", "BadSketch", "BadBlock", "BadOutline", "BadFeature", "BadField", "BadTools", "BadWay", "BadPaper", "Clash", "Twice", "OutOfPlace", "TooGreat", "MissError", "NoPoint", "NoSaying", "NoFeature", "NoTool", "Nothing", "FaultError", "NoToolThere"] : List PySem.Str) ++ (["Lifted", "Lowered", "Beyond", "Blocked", "TooDeep"] : List PySem.Str)
theorem run (w : World) : HandSHeadRun.RunEq R (PySem.W.view R.prog [37]) hk ob 20000 loose w := by
  intro os
  kernel_rfl
theorem cal (K : PySem.W.Frag) (mg : Str → Option Value) (F : ∀ l ∈ ls, l.is K) : AllP (fun q sh => ∃ l ∈ ls, l.d.name = q.1 ∧ BindOk ⟨K, mg⟩ (fdOf K l.d.name) l.ps q.2.1 q.2.2 sh) Gc :=
  ⟨⟨d0, List.mem_of_getElem? (i := 0) rfl, rfl, bind00 (sh := [.inl 0, .inl 1]) (F d0 (List.mem_of_getElem? (i := 0) rfl)) rfl (by decide) rfl fun _ _ _ _ _ _ us ws h1 h2 => match us, h1, ws, h2 with | [_, _], _, [], _ => rfl⟩,
   ⟨d2, List.mem_of_getElem? (i := 2) rfl, rfl, bind00 (sh := [.inl 0, .inl 1]) (F d2 (List.mem_of_getElem? (i := 2) rfl)) rfl (by decide) rfl fun _ _ _ _ _ _ us ws h1 h2 => match us, h1, ws, h2 with | [_, _], _, [], _ => rfl⟩,
   ⟨d3, List.mem_of_getElem? (i := 3) rfl, rfl, bind00 (sh := [.inl 0]) (F d3 (List.mem_of_getElem? (i := 3) rfl)) rfl (by decide) rfl fun _ _ _ _ _ _ us ws h1 h2 => match us, h1, ws, h2 with | [_], _, [], _ => rfl⟩,
   ⟨d5, List.mem_of_getElem? (i := 5) rfl, rfl, bind00 (sh := [.inl 0]) (F d5 (List.mem_of_getElem? (i := 5) rfl)) rfl (by decide) rfl fun _ _ _ _ _ _ us ws h1 h2 => match us, h1, ws, h2 with | [_], _, [], _ => rfl⟩,
   ⟨d1, List.mem_of_getElem? (i := 1) rfl, rfl, bind00 (sh := [.inl 0, .inl 1]) (F d1 (List.mem_of_getElem? (i := 1) rfl)) rfl (by decide) rfl fun _ _ _ _ _ _ us ws h1 h2 => match us, h1, ws, h2 with | [_, _], _, [], _ => rfl⟩,
   ⟨d6, List.mem_of_getElem? (i := 6) rfl, rfl, bind00 (sh := [.inl 0, .inl 1]) (F d6 (List.mem_of_getElem? (i := 6) rfl)) rfl (by decide) rfl fun _ _ _ _ _ _ us ws h1 h2 => match us, h1, ws, h2 with | [_, _], _, [], _ => rfl⟩,
   ⟨d7, List.mem_of_getElem? (i := 7) rfl, rfl, bind00 (sh := [.inl 0, .inl 1]) (F d7 (List.mem_of_getElem? (i := 7) rfl)) rfl (by decide) rfl fun _ _ _ _ _ _ us ws h1 h2 => match us, h1, ws, h2 with | [_, _], _, [], _ => rfl⟩, trivial⟩
theorem mkx (K : PySem.W.Frag) (mg : Str → Option Value) (F : ∀ l ∈ lx, l.is K) : AllP (fun q r => ∃ l ∈ lx, l.cls = q.1 ∧ r.1 = l.fs.reverse ∧ q.2.1 ≤ 1000 ∧ BindI ⟨K, mg⟩ (fdX K l) l.ps l.fs q.2.1 q.2.2 r.2) Gm :=
  ⟨⟨x0, List.mem_of_getElem? (i := 0) rfl, rfl, rfl, by decide, bindX00 (sh := [.inl 0, .inl 1]) (F x0 (List.mem_of_getElem? (i := 0) rfl)) rfl (by decide) rfl fun _ _ _ _ _ _ _ us ws h1 h2 => match us, h1, ws, h2 with | [_, _], _, [], _ => rfl⟩,
   ⟨x1, List.mem_of_getElem? (i := 1) rfl, rfl, rfl, by decide, bindX10 (sh := [.inl 0, .inl 1]) (dv := [.non, .non]) (F x1 (List.mem_of_getElem? (i := 1) rfl)) (by simp [x1]) (by decide) (by decide) rfl fun _ _ _ _ _ _ _ _ us ws its h1 h2 h3 => match us, h1, ws, h2, its, h3 with | [_, _], _, [], _, [_, _], _ => ⟨_, rfl, rfl⟩⟩,
   ⟨x2, List.mem_of_getElem? (i := 2) rfl, rfl, rfl, by decide, bindX10 (sh := [.inl 0]) (dv := [.non]) (F x2 (List.mem_of_getElem? (i := 2) rfl)) (by simp [x2]) (by decide) (by decide) rfl fun _ _ _ _ _ _ _ _ us ws its h1 h2 h3 => match us, h1, ws, h2, its, h3 with | [_], _, [], _, [_], _ => ⟨_, rfl, rfl⟩⟩,
   ⟨x3, List.mem_of_getElem? (i := 3) rfl, rfl, rfl, by decide, bindX10 (sh := [.inl 0]) (dv := [.non]) (F x3 (List.mem_of_getElem? (i := 3) rfl)) (by simp [x3]) (by decide) (by decide) rfl fun _ _ _ _ _ _ _ _ us ws its h1 h2 h3 => match us, h1, ws, h2, its, h3 with | [_], _, [], _, [_], _ => ⟨_, rfl, rfl⟩⟩,
   ⟨x4, List.mem_of_getElem? (i := 4) rfl, rfl, rfl, by decide, bindX10 (sh := [.inl 0]) (dv := [.non]) (F x4 (List.mem_of_getElem? (i := 4) rfl)) (by simp [x4]) (by decide) (by decide) rfl fun _ _ _ _ _ _ _ _ us ws its h1 h2 h3 => match us, h1, ws, h2, its, h3 with | [_], _, [], _, [_], _ => ⟨_, rfl, rfl⟩⟩,
   ⟨x5, List.mem_of_getElem? (i := 5) rfl, rfl, rfl, by decide, bindX10 (sh := [.inl 0]) (dv := [.non]) (F x5 (List.mem_of_getElem? (i := 5) rfl)) (by simp [x5]) (by decide) (by decide) rfl fun _ _ _ _ _ _ _ _ us ws its h1 h2 h3 => match us, h1, ws, h2, its, h3 with | [_], _, [], _, [_], _ => ⟨_, rfl, rfl⟩⟩,
   ⟨x6, List.mem_of_getElem? (i := 6) rfl, rfl, rfl, by decide, bindX10 (sh := [.inl 0]) (dv := [.non]) (F x6 (List.mem_of_getElem? (i := 6) rfl)) (by simp [x6]) (by decide) (by decide) rfl fun _ _ _ _ _ _ _ _ us ws its h1 h2 h3 => match us, h1, ws, h2, its, h3 with | [_], _, [], _, [_], _ => ⟨_, rfl, rfl⟩⟩,
   ⟨x7, List.mem_of_getElem? (i := 7) rfl, rfl, rfl, by decide, bindX10 (sh := [.inl 0]) (dv := [.non]) (F x7 (List.mem_of_getElem? (i := 7) rfl)) (by simp [x7]) (by decide) (by decide) rfl fun _ _ _ _ _ _ _ _ us ws its h1 h2 h3 => match us, h1, ws, h2, its, h3 with | [_], _, [], _, [_], _ => ⟨_, rfl, rfl⟩⟩,
   ⟨x8, List.mem_of_getElem? (i := 8) rfl, rfl, rfl, by decide, bindX10 (sh := [.inl 0]) (dv := [.non]) (F x8 (List.mem_of_getElem? (i := 8) rfl)) (by simp [x8]) (by decide) (by decide) rfl fun _ _ _ _ _ _ _ _ us ws its h1 h2 h3 => match us, h1, ws, h2, its, h3 with | [_], _, [], _, [_], _ => ⟨_, rfl, rfl⟩⟩,
   ⟨x9, List.mem_of_getElem? (i := 9) rfl, rfl, rfl, by decide, bindX00 (sh := [.inl 0]) (F x9 (List.mem_of_getElem? (i := 9) rfl)) rfl (by decide) rfl fun _ _ _ _ _ _ _ us ws h1 h2 => match us, h1, ws, h2 with | [_], _, [], _ => rfl⟩,
   ⟨x10, List.mem_of_getElem? (i := 10) rfl, rfl, rfl, by decide, bindX00 (sh := [.inl 0]) (F x10 (List.mem_of_getElem? (i := 10) rfl)) rfl (by decide) rfl fun _ _ _ _ _ _ _ us ws h1 h2 => match us, h1, ws, h2 with | [_], _, [], _ => rfl⟩,
   ⟨x11, List.mem_of_getElem? (i := 11) rfl, rfl, rfl, by decide, bindX00 (sh := [.inl 0]) (F x11 (List.mem_of_getElem? (i := 11) rfl)) rfl (by decide) rfl fun _ _ _ _ _ _ _ us ws h1 h2 => match us, h1, ws, h2 with | [_], _, [], _ => rfl⟩,
   ⟨x12, List.mem_of_getElem? (i := 12) rfl, rfl, rfl, by decide, bindX00 (sh := [.inl 0]) (F x12 (List.mem_of_getElem? (i := 12) rfl)) rfl (by decide) rfl fun _ _ _ _ _ _ _ us ws h1 h2 => match us, h1, ws, h2 with | [_], _, [], _ => rfl⟩,
   ⟨x13, List.mem_of_getElem? (i := 13) rfl, rfl, rfl, by decide, bindX00 (sh := [.inl 0]) (F x13 (List.mem_of_getElem? (i := 13) rfl)) rfl (by decide) rfl fun _ _ _ _ _ _ _ us ws h1 h2 => match us, h1, ws, h2 with | [_], _, [], _ => rfl⟩,
   ⟨x14, List.mem_of_getElem? (i := 14) rfl, rfl, rfl, by decide, bindX00 (sh := [.inl 0]) (F x14 (List.mem_of_getElem? (i := 14) rfl)) rfl (by decide) rfl fun _ _ _ _ _ _ _ us ws h1 h2 => match us, h1, ws, h2 with | [_], _, [], _ => rfl⟩,
   ⟨x15, List.mem_of_getElem? (i := 15) rfl, rfl, rfl, by decide, bindX00 (sh := [.inl 0]) (F x15 (List.mem_of_getElem? (i := 15) rfl)) rfl (by decide) rfl fun _ _ _ _ _ _ _ us ws h1 h2 => match us, h1, ws, h2 with | [_], _, [], _ => rfl⟩,
   ⟨x16, List.mem_of_getElem? (i := 16) rfl, rfl, rfl, by decide, bindX00 (sh := [.inl 0]) (F x16 (List.mem_of_getElem? (i := 16) rfl)) rfl (by decide) rfl fun _ _ _ _ _ _ _ us ws h1 h2 => match us, h1, ws, h2 with | [_], _, [], _ => rfl⟩,
   ⟨x1, List.mem_of_getElem? (i := 1) rfl, rfl, rfl, by decide, bindX10 (sh := [.inr 0, .inr 1]) (dv := [.non, .non]) (F x1 (List.mem_of_getElem? (i := 1) rfl)) (by simp [x1]) (by decide) (by decide) rfl fun _ _ _ _ _ _ _ _ us ws its h1 h2 h3 => match us, h1, ws, h2, its, h3 with | [], _, [], _, [_, _], _ => ⟨_, rfl, rfl⟩⟩,
   ⟨x1, List.mem_of_getElem? (i := 1) rfl, rfl, rfl, by decide, bindX10 (sh := [.inl 0, .inr 1]) (dv := [.non, .non]) (F x1 (List.mem_of_getElem? (i := 1) rfl)) (by simp [x1]) (by decide) (by decide) rfl fun _ _ _ _ _ _ _ _ us ws its h1 h2 h3 => match us, h1, ws, h2, its, h3 with | [_], _, [], _, [_, _], _ => ⟨_, rfl, rfl⟩⟩,
   ⟨x1, List.mem_of_getElem? (i := 1) rfl, rfl, rfl, by decide, bindX10 (sh := [.inl 0, .inr 1]) (dv := [.non, .non]) (F x1 (List.mem_of_getElem? (i := 1) rfl)) (by simp [x1]) (by decide) (by decide) rfl fun _ _ _ _ _ _ _ _ us ws its h1 h2 h3 => match us, h1, ws, h2, its, h3 with | [], _, [_], _, [_, _], _ => ⟨_, rfl, rfl⟩⟩,
   ⟨x3, List.mem_of_getElem? (i := 3) rfl, rfl, rfl, by decide, bindX10 (sh := [.inr 0]) (dv := [.non]) (F x3 (List.mem_of_getElem? (i := 3) rfl)) (by simp [x3]) (by decide) (by decide) rfl fun _ _ _ _ _ _ _ _ us ws its h1 h2 h3 => match us, h1, ws, h2, its, h3 with | [], _, [], _, [_], _ => ⟨_, rfl, rfl⟩⟩,
   ⟨x4, List.mem_of_getElem? (i := 4) rfl, rfl, rfl, by decide, bindX10 (sh := [.inr 0]) (dv := [.non]) (F x4 (List.mem_of_getElem? (i := 4) rfl)) (by simp [x4]) (by decide) (by decide) rfl fun _ _ _ _ _ _ _ _ us ws its h1 h2 h3 => match us, h1, ws, h2, its, h3 with | [], _, [], _, [_], _ => ⟨_, rfl, rfl⟩⟩,
   ⟨x6, List.mem_of_getElem? (i := 6) rfl, rfl, rfl, by decide, bindX10 (sh := [.inr 0]) (dv := [.non]) (F x6 (List.mem_of_getElem? (i := 6) rfl)) (by simp [x6]) (by decide) (by decide) rfl fun _ _ _ _ _ _ _ _ us ws its h1 h2 h3 => match us, h1, ws, h2, its, h3 with | [], _, [], _, [_], _ => ⟨_, rfl, rfl⟩⟩,
   ⟨x7, List.mem_of_getElem? (i := 7) rfl, rfl, rfl, by decide, bindX10 (sh := [.inr 0]) (dv := [.non]) (F x7 (List.mem_of_getElem? (i := 7) rfl)) (by simp [x7]) (by decide) (by decide) rfl fun _ _ _ _ _ _ _ _ us ws its h1 h2 h3 => match us, h1, ws, h2, its, h3 with | [], _, [], _, [_], _ => ⟨_, rfl, rfl⟩⟩,
   ⟨x0, List.mem_of_getElem? (i := 0) rfl, rfl, rfl, by decide, bindX00 (sh := [.inl 1, .inl 0]) (F x0 (List.mem_of_getElem? (i := 0) rfl)) rfl (by decide) rfl fun _ _ _ _ _ _ _ us ws h1 h2 => match us, h1, ws, h2 with | [], _, [_, _], _ => rfl⟩,
   ⟨x1, List.mem_of_getElem? (i := 1) rfl, rfl, rfl, by decide, bindX10 (sh := [.inl 1, .inl 0]) (dv := [.non, .non]) (F x1 (List.mem_of_getElem? (i := 1) rfl)) (by simp [x1]) (by decide) (by decide) rfl fun _ _ _ _ _ _ _ _ us ws its h1 h2 h3 => match us, h1, ws, h2, its, h3 with | [], _, [_, _], _, [_, _], _ => ⟨_, rfl, rfl⟩⟩,
   ⟨x2, List.mem_of_getElem? (i := 2) rfl, rfl, rfl, by decide, bindX10 (sh := [.inr 0]) (dv := [.non]) (F x2 (List.mem_of_getElem? (i := 2) rfl)) (by simp [x2]) (by decide) (by decide) rfl fun _ _ _ _ _ _ _ _ us ws its h1 h2 h3 => match us, h1, ws, h2, its, h3 with | [], _, [], _, [_], _ => ⟨_, rfl, rfl⟩⟩,
   ⟨x5, List.mem_of_getElem? (i := 5) rfl, rfl, rfl, by decide, bindX10 (sh := [.inr 0]) (dv := [.non]) (F x5 (List.mem_of_getElem? (i := 5) rfl)) (by simp [x5]) (by decide) (by decide) rfl fun _ _ _ _ _ _ _ _ us ws its h1 h2 h3 => match us, h1, ws, h2, its, h3 with | [], _, [], _, [_], _ => ⟨_, rfl, rfl⟩⟩,
   ⟨x8, List.mem_of_getElem? (i := 8) rfl, rfl, rfl, by decide, bindX10 (sh := [.inr 0]) (dv := [.non]) (F x8 (List.mem_of_getElem? (i := 8) rfl)) (by simp [x8]) (by decide) (by decide) rfl fun _ _ _ _ _ _ _ _ us ws its h1 h2 h3 => match us, h1, ws, h2, its, h3 with | [], _, [], _, [_], _ => ⟨_, rfl, rfl⟩⟩,
   ⟨x2, List.mem_of_getElem? (i := 2) rfl, rfl, rfl, by decide, bindX10 (sh := [.inl 0]) (dv := [.non]) (F x2 (List.mem_of_getElem? (i := 2) rfl)) (by simp [x2]) (by decide) (by decide) rfl fun _ _ _ _ _ _ _ _ us ws its h1 h2 h3 => match us, h1, ws, h2, its, h3 with | [], _, [_], _, [_], _ => ⟨_, rfl, rfl⟩⟩,
   ⟨x3, List.mem_of_getElem? (i := 3) rfl, rfl, rfl, by decide, bindX10 (sh := [.inl 0]) (dv := [.non]) (F x3 (List.mem_of_getElem? (i := 3) rfl)) (by simp [x3]) (by decide) (by decide) rfl fun _ _ _ _ _ _ _ _ us ws its h1 h2 h3 => match us, h1, ws, h2, its, h3 with | [], _, [_], _, [_], _ => ⟨_, rfl, rfl⟩⟩,
   ⟨x4, List.mem_of_getElem? (i := 4) rfl, rfl, rfl, by decide, bindX10 (sh := [.inl 0]) (dv := [.non]) (F x4 (List.mem_of_getElem? (i := 4) rfl)) (by simp [x4]) (by decide) (by decide) rfl fun _ _ _ _ _ _ _ _ us ws its h1 h2 h3 => match us, h1, ws, h2, its, h3 with | [], _, [_], _, [_], _ => ⟨_, rfl, rfl⟩⟩,
   ⟨x5, List.mem_of_getElem? (i := 5) rfl, rfl, rfl, by decide, bindX10 (sh := [.inl 0]) (dv := [.non]) (F x5 (List.mem_of_getElem? (i := 5) rfl)) (by simp [x5]) (by decide) (by decide) rfl fun _ _ _ _ _ _ _ _ us ws its h1 h2 h3 => match us, h1, ws, h2, its, h3 with | [], _, [_], _, [_], _ => ⟨_, rfl, rfl⟩⟩,
   ⟨x6, List.mem_of_getElem? (i := 6) rfl, rfl, rfl, by decide, bindX10 (sh := [.inl 0]) (dv := [.non]) (F x6 (List.mem_of_getElem? (i := 6) rfl)) (by simp [x6]) (by decide) (by decide) rfl fun _ _ _ _ _ _ _ _ us ws its h1 h2 h3 => match us, h1, ws, h2, its, h3 with | [], _, [_], _, [_], _ => ⟨_, rfl, rfl⟩⟩,
   ⟨x7, List.mem_of_getElem? (i := 7) rfl, rfl, rfl, by decide, bindX10 (sh := [.inl 0]) (dv := [.non]) (F x7 (List.mem_of_getElem? (i := 7) rfl)) (by simp [x7]) (by decide) (by decide) rfl fun _ _ _ _ _ _ _ _ us ws its h1 h2 h3 => match us, h1, ws, h2, its, h3 with | [], _, [_], _, [_], _ => ⟨_, rfl, rfl⟩⟩,
   ⟨x8, List.mem_of_getElem? (i := 8) rfl, rfl, rfl, by decide, bindX10 (sh := [.inl 0]) (dv := [.non]) (F x8 (List.mem_of_getElem? (i := 8) rfl)) (by simp [x8]) (by decide) (by decide) rfl fun _ _ _ _ _ _ _ _ us ws its h1 h2 h3 => match us, h1, ws, h2, its, h3 with | [], _, [_], _, [_], _ => ⟨_, rfl, rfl⟩⟩,
   ⟨x9, List.mem_of_getElem? (i := 9) rfl, rfl, rfl, by decide, bindX00 (sh := [.inl 0]) (F x9 (List.mem_of_getElem? (i := 9) rfl)) rfl (by decide) rfl fun _ _ _ _ _ _ _ us ws h1 h2 => match us, h1, ws, h2 with | [], _, [_], _ => rfl⟩,
   ⟨x11, List.mem_of_getElem? (i := 11) rfl, rfl, rfl, by decide, bindX00 (sh := [.inl 0]) (F x11 (List.mem_of_getElem? (i := 11) rfl)) rfl (by decide) rfl fun _ _ _ _ _ _ _ us ws h1 h2 => match us, h1, ws, h2 with | [], _, [_], _ => rfl⟩,
   ⟨x12, List.mem_of_getElem? (i := 12) rfl, rfl, rfl, by decide, bindX00 (sh := [.inl 0]) (F x12 (List.mem_of_getElem? (i := 12) rfl)) rfl (by decide) rfl fun _ _ _ _ _ _ _ us ws h1 h2 => match us, h1, ws, h2 with | [], _, [_], _ => rfl⟩,
   ⟨x13, List.mem_of_getElem? (i := 13) rfl, rfl, rfl, by decide, bindX00 (sh := [.inl 0]) (F x13 (List.mem_of_getElem? (i := 13) rfl)) rfl (by decide) rfl fun _ _ _ _ _ _ _ us ws h1 h2 => match us, h1, ws, h2 with | [], _, [_], _ => rfl⟩,
   ⟨x14, List.mem_of_getElem? (i := 14) rfl, rfl, rfl, by decide, bindX00 (sh := [.inl 0]) (F x14 (List.mem_of_getElem? (i := 14) rfl)) rfl (by decide) rfl fun _ _ _ _ _ _ _ us ws h1 h2 => match us, h1, ws, h2 with | [], _, [_], _ => rfl⟩,
   ⟨x15, List.mem_of_getElem? (i := 15) rfl, rfl, rfl, by decide, bindX00 (sh := [.inl 0]) (F x15 (List.mem_of_getElem? (i := 15) rfl)) rfl (by decide) rfl fun _ _ _ _ _ _ _ us ws h1 h2 => match us, h1, ws, h2 with | [], _, [_], _ => rfl⟩,
   ⟨x16, List.mem_of_getElem? (i := 16) rfl, rfl, rfl, by decide, bindX00 (sh := [.inl 0]) (F x16 (List.mem_of_getElem? (i := 16) rfl)) rfl (by decide) rfl fun _ _ _ _ _ _ _ us ws h1 h2 => match us, h1, ws, h2 with | [], _, [_], _ => rfl⟩,
   ⟨x10, List.mem_of_getElem? (i := 10) rfl, rfl, rfl, by decide, bindX00 (sh := [.inl 0]) (F x10 (List.mem_of_getElem? (i := 10) rfl)) rfl (by decide) rfl fun _ _ _ _ _ _ _ us ws h1 h2 => match us, h1, ws, h2 with | [], _, [_], _ => rfl⟩, trivial⟩
theorem okx : lx.all LX.ok = true := by kernel_rfl
theorem oks : ls.all (LD.ok 200 G) = true := by kernel_rfl
theorem nds : (ls.map (·.d.name)).Nodup := by decide +kernel
theorem holds_of (hlaw : ∀ ns : List Int, ns.length ≤ 63 → ∃ cs, callAt (tbOf 200 G ls) 40 "law" [.fro (ns.map .int)] [] = .ok (.bl true) cs) : PySem.Challenge.rw_panelworks_k05_refusals_by_hand.Holds := by
  w_on; o_law
  refine HandSHeadRun.head_any (r := PySem.W.OpenLaw.row PySem.Challenge.rw_panelworks_k05_refusals_by_hand) (q := PySem.W.view (PySem.W.OpenLaw.row PySem.Challenge.rw_panelworks_k05_refusals_by_hand).prog [37]) (H := hk) (ob := ob) (M := 20000) (loose := loose) (d := HandSHeadRun.topDef (PySem.W.OpenLaw.row PySem.Challenge.rw_panelworks_k05_refusals_by_hand).prog 37) (kwd := []) ob_eq
    (by kernel_rfl) (fun s => by kernel_rfl) run (by kernel_rfl) (by kernel_rfl) (by kernel_rfl) (by rfl) (by first | assumption | decide +kernel) (by decide +kernel) ⟨rfl, rfl, rfl, rfl, rfl, by decide +kernel⟩ ?hw ?hc
  case hw => w_witness2
  case hc =>
    exact law_end (l := PySem.Challenge.rw_panelworks_k05_refusals_by_hand) (k := 40) (nf := 200) (x := "_law_script") (ls := ls) (lx := lx) (G := G) rfl (by kernel_rfl) ⟨rfl, by decide, by decide⟩ (by kernel_rfl) (fun _ _ h => h) oks okx nds (i := 8) (ll := d8) rfl rfl rfl rfl (fun _ _ _ _ _ _ us hl => match us, hl with | [_], _ => rfl) cal mkx hlaw
end K05

set_option maxHeartbeats 1000000
/-! PsEval: the small interpreter run by simp; loops by what they keep. -/
namespace Ps
open PySem
section
variable {cl : Cl} {σ : Slots} {cs : Cells} {α β : Type}
theorem bind_cg {r r' : R α} {f : α → Cells → R β} (h : r = r') : r.bind f = r'.bind f := by rw [h]
/-- what is wanted of a run -/
def Wp (r : R α) (Q : α → Cells → Prop) : Prop := match r with
  | .ok a cs => Q a cs
  | _ => False
theorem wp_cg {r r' : R α} {Q : α → Cells → Prop} (h : r = r') : Wp r Q = Wp r' Q := by rw [h]
@[simp] theorem wp_ok {a : α} {Q : α → Cells → Prop} : Wp (.ok a cs) Q = Q a cs := rfl
@[simp] theorem wp_bind {r : R α} {f : α → Cells → R β} {Q : β → Cells → Prop} : Wp (r.bind f) Q = Wp r fun a cs => Wp (f a cs) Q := by
  cases r <;> rfl
theorem Wp.mono {r : R α} {Q Q' : α → Cells → Prop} (h : Wp r Q) (k : ∀ a cs, Q a cs → Q' a cs) : Wp r Q' := by
  cases r with
  | ok a cs => exact k a cs h
  | _ => exact h
theorem Wp.ex {r : R α} {Q : α → Cells → Prop} (h : Wp r Q) : ∃ a cs, r = .ok a cs ∧ Q a cs := by
  cases r with
  | ok a cs => exact ⟨a, cs, rfl, h⟩
  | _ => exact h.elim
/-- three ways -/
def cond3 (t : Option Bool) (a b : R α) : R α := match t with
  | some true => a
  | some false => b
  | none => .stuck
theorem cond3_cg {t t' : Option Bool} {a b : R α} (h : t = t') : cond3 t a b = cond3 t' a b := by rw [h]
@[simp] theorem cond3_t {a b : R α} : cond3 (some true) a b = a := rfl
@[simp] theorem cond3_f {a b : R α} : cond3 (some false) a b = b := rfl
theorem cond3_if {t : Bool} {a b : R α} : cond3 (some t) a b = if t = true then a else b := by cases t <;> rfl
def nxt (o : Out) (cs : Cells) (f : Slots → Cells → R Out) : R Out := match o with
  | .nx σ => f σ cs
  | o => .ok o cs
theorem nxt_cg {o o' : Out} {f : Slots → Cells → R Out} (h : o = o') : nxt o cs f = nxt o' cs f := by rw [h]
@[simp] theorem nxt_nx {f : Slots → Cells → R Out} : nxt (.nx σ) cs f = f σ cs := rfl
@[simp] theorem nxt_rt {v : Val} {f : Slots → Cells → R Out} : nxt (.rt v) cs f = .ok (.rt v) cs := rfl
@[simp] theorem nxt_bk {f : Slots → Cells → R Out} : nxt (.bk σ) cs f = .ok (.bk σ) cs := rfl
@[simp] theorem nxt_ct {f : Slots → Cells → R Out} : nxt (.ct σ) cs f = .ok (.ct σ) cs := rfl
/-! ### expressions -/
@[simp] theorem ev_const {v : Val} : ev cl (.const v) σ cs = .ok v cs := rfl
def slot (o : Option (Option Val)) (cs : Cells) : R Val := match o with
  | some (some v) => .ok v cs
  | _ => .stuck
@[simp] theorem slot_some {v : Val} : slot (some (some v)) cs = .ok v cs := rfl
@[simp] theorem ev_var {i : Nat} : ev cl (.var i) σ cs = slot σ[i]? cs := rfl
@[simp] theorem ev_bin {op : Bop} {a b : E} : ev cl (.bin op a b) σ cs = (ev cl a σ cs).bind fun x cs => (ev cl b σ cs).bind fun y cs => binop op x y cs := rfl
@[simp] theorem ev_cmp {op : Cop} {a b : E} : ev cl (.cmp op a b) σ cs = (ev cl a σ cs).bind fun x cs => (ev cl b σ cs).bind fun y cs => cmpop op x y cs := rfl
def chainK (t : Val) (cs : Cells) (f : Cells → R Val) : R Val := match t with
  | .bl true => f cs
  | .bl false => .ok (.bl false) cs
  | _ => .stuck
theorem chainK_cg {t t' : Val} {f : Cells → R Val} (h : t = t') : chainK t cs f = chainK t' cs f := by rw [h]
@[simp] theorem chainK_t {f : Cells → R Val} : chainK (.bl true) cs f = f cs := rfl
@[simp] theorem chainK_f {f : Cells → R Val} : chainK (.bl false) cs f = .ok (.bl false) cs := rfl
theorem chainK_if {t : Bool} {f : Cells → R Val} : chainK (.bl t) cs f = if t = true then f cs else .ok (.bl false) cs := by cases t <;> rfl
@[simp] theorem ev_chain {op op' : Cop} {a b c : E} : ev cl (.chain op op' a b c) σ cs = (ev cl a σ cs).bind fun x cs => (ev cl b σ cs).bind fun y cs => (cmpop op x y cs).bind fun t cs => chainK t cs fun cs => (ev cl c σ cs).bind fun z cs => cmpop op' y z cs := rfl
@[simp] theorem ev_and {a b : E} : ev cl (.and_ a b) σ cs = (ev cl a σ cs).bind fun x cs => cond3 (truth cs x) (ev cl b σ cs) (.ok x cs) := rfl
@[simp] theorem ev_or {a b : E} : ev cl (.or_ a b) σ cs = (ev cl a σ cs).bind fun x cs => cond3 (truth cs x) (.ok x cs) (ev cl b σ cs) := rfl
@[simp] theorem ev_not {a : E} : ev cl (.not_ a) σ cs = (ev cl a σ cs).bind fun x cs => (R.of (truth cs x) cs).bind fun t cs => .ok (.bl (!t)) cs := by
  show (ev cl a σ cs).bind _ = _
  congr 1
  funext x cs
  cases truth cs x <;> rfl
@[simp] theorem ev_ite {c a b : E} : ev cl (.ite c a b) σ cs = (ev cl c σ cs).bind fun x cs => cond3 (truth cs x) (ev cl a σ cs) (ev cl b σ cs) := rfl
@[simp] theorem ev_tup {es : List E} : ev cl (.tup es) σ cs = (evs cl es σ cs).bind fun vs cs => if (vs.all noRef && decide (vs.length ≤ sizeLine)) = true then .ok (.tup vs) cs else .stuck := rfl
@[simp] theorem ev_lst {es : List E} : ev cl (.lst es) σ cs = (evs cl es σ cs).bind fun vs cs => if (vs.all noRef && decide (vs.length ≤ sizeLine)) = true then .ok (.lst vs) cs else .stuck := rfl
@[simp] theorem ev_ix {a b : E} : ev cl (.ix a b) σ cs = (ev cl a σ cs).bind fun x cs => (ev cl b σ cs).bind fun y cs => ixV x y cs := rfl
@[simp] theorem ev_slice {a lo hi : E} {p q : Bool} : ev cl (.slice a lo hi p q) σ cs = (ev cl a σ cs).bind fun x cs => (ev cl lo σ cs).bind fun l cs => (R.of (optI p l) cs).bind fun l cs => (ev cl hi σ cs).bind fun h cs => (R.of (optI q h) cs).bind fun h cs => sliceV x l h cs := rfl
@[simp] theorem ev_call {f : Str} {es : List E} {sh : List (Nat ⊕ Val)} : ev cl (.call f es sh) σ cs = (evs cl es σ cs).bind fun vs cs => (R.of (shape sh vs) cs).bind fun vs cs => cl f vs cs := rfl
@[simp] theorem ev_prim {p : Prim} {es : List E} : ev cl (.prim p es) σ cs = (evs cl es σ cs).bind fun vs cs => primV p vs cs := rfl
def smK (x : Val) (cs : Cells) (f : Str → Cells → R Val) : R Val := match x with
  | .str a => f a cs
  | _ => .stuck
theorem smK_cg {x x' : Val} {f : Str → Cells → R Val} (h : x = x') : smK x cs f = smK x' cs f := by rw [h]
@[simp] theorem smK_str {a : Str} {f : Str → Cells → R Val} : smK (.str a) cs f = f a cs := rfl
@[simp] theorem ev_smeth {p : Sm} {o : E} {es : List E} : ev cl (.smeth p o es) σ cs = (ev cl o σ cs).bind fun x cs => smK x cs fun a cs => (evs cl es σ cs).bind fun vs cs => smethV p a vs cs := rfl
@[simp] theorem ev_dict {ks : List Str} {es : List E} : ev cl (.dict ks es) σ cs = (evs cl es σ cs).bind fun vs cs => if (vs.all noRef && decide (vs.length = ks.length) && decide (ks.length ≤ 15) && decide (ks.Nodup)) = true then .ok (.ref cs.length) (cs ++ [.dict ((ks.map Sum.inr).zip vs)]) else .stuck := rfl
@[simp] theorem ev_emp : ev cl .emp σ cs = .ok .emp cs := rfl
def ownV (v : Val) (cs : Cells) : R Val := match v with
  | .lst xs => .ok (.ref cs.length) (cs ++ [.list xs])
  | _ => .stuck
@[simp] theorem ownV_lst {xs : List Val} : ownV (.lst xs) cs = .ok (.ref cs.length) (cs ++ [.list xs]) := rfl
@[simp] theorem ev_own {a : E} : ev cl (.own a) σ cs = (ev cl a σ cs).bind fun v cs => ownV v cs := rfl
def lmK (o : Option (List Val)) (f : R Val) : R Val := match o with
  | some _ => f
  | none => .stuck
@[simp] theorem lmK_some {xs : List Val} {f : R Val} : lmK (some xs) f = f := rfl
@[simp] theorem ev_lmeth {p : Lm} {o : E} {es : List E} : ev cl (.lmeth p o es) σ cs = (ev cl o σ cs).bind fun x cs => lmK (listW cs x) ((evs cl es σ cs).bind fun vs cs => lmethV p x vs cs) := by
  show (ev cl o σ cs).bind _ = _
  congr 1
@[simp] theorem ev_isExc {a : E} {tab : List (Str × Bool)} : ev cl (.isExc a tab) σ cs = (ev cl a σ cs).bind fun x cs => (R.of (excIs x tab) cs).bind fun b cs => .ok (.bl b) cs := rfl
@[simp] theorem ev_fld {a : E} {f : Str} {tab : List Str} : ev cl (.fld a f tab) σ cs = (ev cl a σ cs).bind fun x cs => R.of (fldV x f tab) cs := rfl
@[simp] theorem ev_mkx {c : Str} {ks : List Str} {es : List E} {sh : List (Nat ⊕ Val)} : ev cl (.mkx c ks es sh) σ cs = (evs cl es σ cs).bind fun vs cs => (R.of (shape sh vs) cs).bind fun vs cs => if (vs.all noRef && decide (vs.length = ks.length)) = true then .ok (.exc c ks vs) cs else .stuck := rfl
@[simp] theorem evs_nil : evs cl [] σ cs = .ok [] cs := rfl
@[simp] theorem evs_cons {e : E} {es : List E} : evs cl (e :: es) σ cs = (ev cl e σ cs).bind fun v cs => (evs cl es σ cs).bind fun vs cs => .ok (v :: vs) cs := rfl
@[simp] theorem tests_nil : tests cl [] σ cs = .ok true cs := rfl
@[simp] theorem tests_cons {e : E} {es : List E} : tests cl (e :: es) σ cs = (ev cl e σ cs).bind fun v cs => cond3 (truth cs v) (tests cl es σ cs) (.ok false cs) := rfl
@[simp] theorem evf_nil {acc : Str} : evf cl [] acc σ cs = .ok acc cs := rfl
def fK (x : Val) (cs : Cells) (f : Str → Cells → R Str) : R Str := match x with
  | .str a => f a cs
  | _ => .stuck
theorem fK_cg {x x' : Val} {f : Str → Cells → R Str} (h : x = x') : fK x cs f = fK x' cs f := by rw [h]
@[simp] theorem fK_str {a : Str} {f : Str → Cells → R Str} : fK (.str a) cs f = f a cs := rfl
@[simp] theorem evf_cons {e : E} {es : List E} {acc : Str} : evf cl (e :: es) acc σ cs = (ev cl e σ cs).bind fun x cs => fK x cs fun y cs => if (acc ++ y).length ≤ sizeLine then evf cl es (acc ++ y) σ cs else .stuck := rfl
@[simp] theorem ev_fstr {es : List E} : ev cl (.fstr es) σ cs = (evf cl es Str.empty σ cs).bind fun y cs => .ok (.str y) cs := rfl
def fmtV (x : Val) (cs : Cells) : R Val := match x with
  | .str y => if y.length ≤ sizeLine then .ok (.str y) cs else .stuck
  | .int i => if i.natAbs.log2 < 1920 then .ok (.str (toString i)) cs else .stuck
  | _ => .stuck
@[simp] theorem fmtV_int {i : Int} : fmtV (.int i) cs = if i.natAbs.log2 < 1920 then .ok (.str (toString i)) cs else .stuck := rfl
@[simp] theorem fmtV_str {y : Str} : fmtV (.str y) cs = if y.length ≤ sizeLine then .ok (.str y) cs else .stuck := rfl
@[simp] theorem ev_fmt {a : E} : ev cl (.fmt a) σ cs = (ev cl a σ cs).bind fun x cs => fmtV x cs := rfl
/-! ### statements -/
@[simp] theorem exs_nil : exs cl [] σ cs = .ok (.nx σ) cs := rfl
@[simp] theorem exs_cons {s : S} {ss : List S} : exs cl (s :: ss) σ cs = (ex cl s σ cs).bind fun o cs => nxt o cs fun σ cs => exs cl ss σ cs := rfl
@[simp] theorem ex_ret {e : E} : ex cl (.ret e) σ cs = (ev cl e σ cs).bind fun v cs => .ok (.rt v) cs := rfl
@[simp] theorem ex_asg {t : Tg} {e : E} : ex cl (.asg t e) σ cs = (ev cl e σ cs).bind fun v cs => (R.of (asgT t v σ) cs).bind fun σ cs => .ok (.nx σ) cs := rfl
@[simp] theorem ex_par {is : List Nat} {es : List E} : ex cl (.par is es) σ cs = (evs cl es σ cs).bind fun vs cs => if vs.length = is.length then .ok (.nx (setAll σ is vs)) cs else .stuck := rfl
@[simp] theorem ex_expr {e : E} : ex cl (.expr e) σ cs = (ev cl e σ cs).bind fun _ cs => .ok (.nx σ) cs := rfl
def cond2 (t : Bool) (a b : R α) : R α := match t with
  | true => a
  | false => b
theorem cond2_cg {t t' : Bool} {a b : R α} (h : t = t') : cond2 t a b = cond2 t' a b := by rw [h]
@[simp] theorem cond2_t {a b : R α} : cond2 true a b = a := rfl
@[simp] theorem cond2_f {a b : R α} : cond2 false a b = b := rfl
@[simp] theorem ex_ite {c : E} {a b : List S} : ex cl (.ite c a b) σ cs = (tst cl c σ cs).bind fun t cs => cond2 t (exs cl a σ cs) (exs cl b σ cs) := rfl
@[simp] theorem tst_eq {e : E} : tst cl e σ cs = (ev cl e σ cs).bind fun x cs => R.of (truth cs x) cs := rfl
@[simp] theorem ex_pass : ex cl .pass σ cs = .ok (.nx σ) cs := rfl
@[simp] theorem ex_brk : ex cl .brk σ cs = .ok (.bk σ) cs := rfl
@[simp] theorem ex_cont : ex cl .cont σ cs = .ok (.ct σ) cs := rfl
@[simp] theorem ex_rais {c : Str} {ks : List Str} {es : List E} {sh : List (Nat ⊕ Val)} : ex cl (.rais c ks es sh) σ cs = (evs cl es σ cs).bind fun vs cs => (R.of (shape sh vs) cs).bind fun vs cs => if (vs.all noRef && decide (vs.length = ks.length)) = true then .ex (.exc c ks vs) cs else .stuck := rfl
def okO (i : Option Nat) (r : R Out) : R Out := match r with
  | .ok o cs => .ok (goneO i o) cs
  | _ => .stuck
@[simp] theorem okO_ok {i : Option Nat} {o : Out} : okO i (.ok o cs) = .ok (goneO i o) cs := rfl
def tryK (t : Option Bool) (x : Val) (cs : Cells) (r : R Out) : R Out := match t with
  | none => .stuck
  | some false => .ex x cs
  | some true => r
@[simp] theorem tryK_t {x : Val} {r : R Out} : tryK (some true) x cs r = r := rfl
@[simp] theorem tryK_f {x : Val} {r : R Out} : tryK (some false) x cs r = .ex x cs := rfl
def tryR (r : R Out) (f : Val → Cells → R Out) : R Out := match r with
  | .ok o cs => .ok o cs
  | .stuck => .stuck
  | .ex x cs => f x cs
@[simp] theorem tryR_ok {o : Out} {f : Val → Cells → R Out} : tryR (.ok o cs) f = .ok o cs := rfl
@[simp] theorem tryR_ex {x : Val} {f : Val → Cells → R Out} : tryR (.ex x cs) f = f x cs := rfl
@[simp] theorem ex_tryA {s su : S} {tab : List (Str × Bool)} {i : Nat} : ex cl (.tryA s tab (some i) su) σ cs = tryR (ex cl s σ cs) fun x cs => tryK (excIs x tab) x cs (okO (some i) (ex cl su (σ.set i (some x)) cs)) := by
  show (match ex cl s σ cs with | .ok o cs => _ | .stuck => _ | .ex x cs => _) = _
  cases ex cl s σ cs with
  | ok o cs => rfl
  | stuck => rfl
  | ex x cs =>
    simp only [tryR_ex]
    cases excIs x tab with
    | none => rfl
    | some b =>
      cases b with
      | false => rfl
      | true =>
        simp only [tryK_t]
        cases ex cl su (σ.set i (some x)) cs <;> rfl
@[simp] theorem gone_nx {i : Nat} : goneO (some i) (.nx σ) = .nx (σ.set i none) := rfl
@[simp] theorem gone_rt {i : Option Nat} {v : Val} : goneO i (.rt v) = .rt v := rfl
@[simp] theorem lv_exc {L : Nat} {x : Val} : leave L (.ex x cs) = .ex x (cs.take L) := rfl
@[simp] theorem ex_star {ts : List Nat} {i : Nat} {e : E} : ex cl (.star ts i e) σ cs = (ev cl e σ cs).bind fun v cs => (R.of (seqOf cs v) cs).bind fun xs cs =>
      if i < ts.length ∧ ts.length ≤ xs.length + 1 then (R.of (asgTs (ts.map .nm) (starL ts.length i .lst xs) σ) cs).bind fun σ cs => .ok (.nx σ) cs else .stuck := rfl
def subV (x z y : Val) (σ : Slots) (cs : Cells) : R Out := match x, z with
    | .ref r, .str k => (match cs[r]? with
      | some (.dict kvs) => if noRef y && decide (kvs.length < sizeLine) then .ok (.nx σ) (cs.set r (.dict (putD kvs (.inr k) y))) else .stuck
      | _ => .stuck)
    | _, _ => .stuck
@[simp] theorem ex_sub {o i v : E} : ex cl (.sub o i v) σ cs = (ev cl v σ cs).bind fun y cs => (ev cl o σ cs).bind fun x cs => (ev cl i σ cs).bind fun z cs => subV x z y σ cs := rfl
/-! ### loops -/
theorem ex_for {t : Tg} {k : ItK} {its : List E} {body : List S} : ex cl (.for_ t k its body) σ cs = (evs cl its σ cs).bind fun vs cs => (R.of (itemsOf k vs cs) cs).bind fun xs cs =>
      forLoop (chkOf k vs xs) (fun x σ cs => (R.of (asgT t x σ) cs).bind fun σ cs => exs cl body σ cs) xs σ cs := rfl
theorem ex_while {c : E} {body : List S} : ex cl (.while_ c body) σ cs = whLoop (fun σ cs => tst cl c σ cs) (fun σ cs => exs cl body σ cs) FUEL σ cs := rfl
/-- one turn of a comprehension -/
def lcStep (cl : Cl) (elt : E) (tg : Tg) (ifs : List E) (own : List Nat) (σ : Slots) (x : Val) (cs : Cells) : R (Option Val) := match asgT tg x (wipeS σ own) with
        | none => .stuck
        | some σ' => match tests cl ifs σ' cs with
          | .ok true cs => (match ev cl elt σ' cs with
            | .ok v cs => .ok (some v) cs
            | _ => .stuck)
          | .ok false cs => .ok none cs
          | _ => .stuck
theorem ev_lcomp {elt : E} {tg : Tg} {k : ItK} {its ifs : List E} {own : List Nat} : ev cl (.lcomp elt tg k its ifs own) σ cs = (evs cl its σ cs).bind fun vs cs => (R.of (itemsOf k vs cs) cs).bind fun xs cs =>
      (lcLoop (chkOf k vs xs) (lcStep cl elt tg ifs own σ) xs cs []).bind fun ys cs => .ok (.lst ys) cs := rfl
/-- a comprehension by what it keeps -/
theorem lc_wp {chk : Cells → Bool} {f : Val → Cells → R (Option Val)} {Q : List Val → Cells → Prop} (I : List Val → List Val → Cells → Prop) : ∀ {xs acc : List Val} {cs : Cells}, I xs acc cs → (∀ acc cs, I [] acc cs → Q acc cs) →
    (∀ x xs acc cs, I (x :: xs) acc cs → Wp (f x cs) fun o cs => chk cs = true ∧ match o with
      | some v => noRef v = true ∧ acc.length < sizeLine ∧ I xs (acc ++ [v]) cs
      | none => I xs acc cs) → Wp (lcLoop chk f xs cs acc) Q
  | [], acc, cs, h, q, _ => q acc cs h
  | x :: xs, acc, cs, h, q, st => by
    unfold lcLoop
    rw [wp_bind]
    refine (st x xs acc cs h).mono fun o cs1 h1 => ?_
    rw [h1.1]
    cases o with
    | none => exact lc_wp I h1.2 q st
    | some v =>
      have h2 : noRef v = true ∧ acc.length < sizeLine ∧ I xs (acc ++ [v]) cs1 := h1.2
      dsimp only
      rw [if_pos (by rw [h2.1, decide_eq_true h2.2.1]; rfl)]
      exact lc_wp I h2.2.2 q st
/-- a loop by what it keeps: P is wanted of what goes on behind it -/
theorem for_wp {chk : Cells → Bool} {f : Val → Slots → Cells → R Out} {Q : Out → Cells → Prop} (I : List Val → Slots → Cells → Prop) : ∀ {xs : List Val} {σ : Slots} {cs : Cells}, I xs σ cs → (∀ σ cs, I [] σ cs → Q (.nx σ) cs) →
    (∀ x xs σ cs, I (x :: xs) σ cs → Wp (f x σ cs) fun o cs => match o with
      | .nx σ => chk cs = true ∧ I xs σ cs
      | .ct σ => chk cs = true ∧ I xs σ cs
      | .bk σ => Q (.nx σ) cs
      | .rt v => Q (.rt v) cs) → Wp (forLoop chk f xs σ cs) Q
  | [], σ, cs, h, q, _ => q σ cs h
  | x :: xs, σ, cs, h, q, st => by
    unfold forLoop
    rw [wp_bind]
    refine (st x xs σ cs h).mono fun o cs1 h1 => ?_
    cases o with
    | nx σ1 =>
      have h2 : chk cs1 = true ∧ I xs σ1 cs1 := h1
      dsimp only
      rw [if_pos h2.1]
      exact for_wp I h2.2 q st
    | ct σ1 =>
      have h2 : chk cs1 = true ∧ I xs σ1 cs1 := h1
      dsimp only
      rw [if_pos h2.1]
      exact for_wp I h2.2 q st
    | bk σ1 => exact h1
    | rt v => exact h1
/-- while: n goes down -/
theorem wh_wp {c : Slots → Cells → R Bool} {b : Slots → Cells → R Out} {Q : Out → Cells → Prop} (I : Nat → Slots → Cells → Prop)
    (st : ∀ n σ cs, I n σ cs → Wp (c σ cs) fun t cs => match t with
      | false => Q (.nx σ) cs
      | true => Wp (b σ cs) fun o cs => match o with
        | .nx σ => ∃ m, m < n ∧ I m σ cs
        | .ct σ => ∃ m, m < n ∧ I m σ cs
        | .bk σ => Q (.nx σ) cs
        | .rt v => Q (.rt v) cs) : ∀ (fuel n : Nat) (σ : Slots) (cs : Cells), n < fuel → I n σ cs → Wp (whLoop c b fuel σ cs) Q
  | 0, n, σ, cs, h, _ => absurd h (Nat.not_lt_zero _)
  | fuel + 1, n, σ, cs, h, i => by
    unfold whLoop
    rw [wp_bind]
    refine (st n σ cs i).mono fun t cs1 h1 => ?_
    cases t with
    | false => exact h1
    | true =>
      dsimp only
      rw [wp_bind]
      refine Wp.mono h1 fun o cs2 h2 => ?_
      cases o with
      | nx σ2 =>
        obtain ⟨m, hm, h3⟩ := h2
        exact wh_wp I st fuel m σ2 cs2 (by omega) h3
      | ct σ2 =>
        obtain ⟨m, hm, h3⟩ := h2
        exact wh_wp I st fuel m σ2 cs2 (by omega) h3
      | bk σ2 => exact h2
      | rt v => exact h2
theorem fuel_big : 10 ^ 1000 < FUEL := by
  unfold FUEL
  decide +kernel
/-! ### calls -/
theorem call_eq {tb : List (Str × Fn)} {k : Nat} {f : Str} {d : Fn} {vs : List Val} (h : tb.lookup f = some d) (hl : vs.length = d.n) : callAt tb (k + 1) f vs cs = leave cs.length (exs (callAt tb k) d.body (vs.map some ++ List.replicate (d.slots - d.n) none) cs) := by
  simp only [callAt, h, hl, if_true]
theorem wp_leave {L : Nat} {r : R Out} {Q : Val → Cells → Prop} (h : Wp r fun o cs => Wp (leave L (.ok o cs)) Q) : Wp (leave L r) Q := by
  cases r with
  | ok o cs => exact h
  | _ => exact h
theorem call_wp {tb : List (Str × Fn)} {k : Nat} {f : Str} {d : Fn} {vs : List Val} {Q : Val → Cells → Prop} (h : tb.lookup f = some d) (hl : vs.length = d.n)
    (hw : Wp (exs (callAt tb k) d.body (vs.map some ++ List.replicate (d.slots - d.n) none) cs) fun o cs' => Wp (leave cs.length (.ok o cs')) Q) : Wp (callAt tb (k + 1) f vs cs) Q := by
  rw [call_eq h hl]
  exact wp_leave hw
@[simp] theorem lv_non {L : Nat} : leave L (.ok (.rt .non) cs) = .ok .non (cs.take L) := rfl
@[simp] theorem lv_nx {L : Nat} : leave L (.ok (.nx σ) cs) = .ok .non (cs.take L) := rfl
@[simp] theorem lv_bl {L : Nat} {b : Bool} : leave L (.ok (.rt (.bl b)) cs) = .ok (.bl b) (cs.take L) := rfl
@[simp] theorem lv_int {L : Nat} {i : Int} : leave L (.ok (.rt (.int i)) cs) = .ok (.int i) (cs.take L) := rfl
@[simp] theorem lv_str {L : Nat} {x : Str} : leave L (.ok (.rt (.str x)) cs) = .ok (.str x) (cs.take L) := rfl
@[simp] theorem lv_tup {L : Nat} {xs : List Val} : leave L (.ok (.rt (.tup xs)) cs) = .ok (.tup xs) (cs.take L) := rfl
@[simp] theorem lv_lst {L : Nat} {xs : List Val} : leave L (.ok (.rt (.lst xs)) cs) = .ok (.lst xs) (cs.take L) := rfl
@[simp] theorem lv_fro {L : Nat} {xs : List Val} : leave L (.ok (.rt (.fro xs)) cs) = .ok (.fro xs) (cs.take L) := rfl
@[simp] theorem lv_dict {L : Nat} {kvs : List (L2.Key × Val)} (h : cs.length = L) : leave L (.ok (.rt (.ref L)) (cs ++ [.dict kvs])) = .ok (.ref L) (cs ++ [.dict kvs]) := by
  subst h
  simp [leave]
@[simp] theorem take_len : cs.take cs.length = cs := List.take_length
@[simp] theorem take_set {r : Nat} {c : Cell} : (cs.set r c).take cs.length = cs.set r c := List.take_of_length_le (by simp)
/-! ### values -/
@[simp] theorem b_add {i j : Int} : binop .add (.int i) (.int j) cs = .ok (.int (i + j)) cs := rfl
@[simp] theorem b_sub {i j : Int} : binop .sub (.int i) (.int j) cs = .ok (.int (i - j)) cs := rfl
theorem b_mul {i j : Int} (h : i.natAbs.log2 + j.natAbs.log2 < 1000000) : binop .mul (.int i) (.int j) cs = .ok (.int (i * j)) cs := by
  have e : fits i j = true := decide_eq_true h
  show (if fits i j = true then _ else _) = _
  rw [if_pos e]
theorem b_mod {i j : Int} (h : j ≠ 0) : binop .mod (.int i) (.int j) cs = .ok (.int (i.fmod j)) cs := if_pos h
theorem b_mod' {i j : Int} (h : 0 < j) : binop .mod (.int i) (.int j) cs = .ok (.int (i % j)) cs := by
  rw [b_mod (by omega), Int.fmod_eq_emod_of_nonneg _ (by omega)]
theorem b_fdiv {i j : Int} (h : 0 < j) (h2 : j.natAbs.log2 < 9000) : binop .fdiv (.int i) (.int j) cs = .ok (.int (i / j)) cs := if_pos ⟨h, h2⟩
theorem b_pow {i j : Int} (h : 0 ≤ j ∧ j ≤ 1000000 ∧ i.natAbs < 2 ^ 64) : binop .pow (.int i) (.int j) cs = .ok (.int (i ^ j.toNat)) cs := if_pos h
theorem b_adds {x y : Str} (h : x.length + y.length ≤ sizeLine) : binop .add (.str x) (.str y) cs = .ok (.str (x ++ y)) cs := if_pos h
theorem b_addl {x y : List Val} (h : x.length + y.length ≤ sizeLine) : binop .add (.lst x) (.lst y) cs = .ok (.lst (x ++ y)) cs := if_pos h
@[simp] theorem t_bl {b : Bool} : truth cs (.bl b) = some b := rfl
@[simp] theorem t_non : truth cs .non = some false := rfl
@[simp] theorem c_lt {i j : Int} : cmpop .lt (.int i) (.int j) cs = .ok (.bl (decide (i < j))) cs := rfl
@[simp] theorem c_le {i j : Int} : cmpop .le (.int i) (.int j) cs = .ok (.bl (decide (i ≤ j))) cs := rfl
@[simp] theorem c_gt {i j : Int} : cmpop .gt (.int i) (.int j) cs = .ok (.bl (decide (j < i))) cs := rfl
@[simp] theorem c_ge {i j : Int} : cmpop .ge (.int i) (.int j) cs = .ok (.bl (decide (j ≤ i))) cs := rfl
@[simp] theorem c_eq {x y : Val} : cmpop .eq x y cs = (R.of (eqVal cs x y) cs).bind fun b cs => .ok (.bl b) cs := rfl
@[simp] theorem c_ne {x y : Val} : cmpop .ne x y cs = (R.of (eqVal cs x y) cs).bind fun b cs => .ok (.bl (!b)) cs := rfl
@[simp] theorem c_is {x y : Val} : cmpop .is_ x y cs = (R.of (isV x y cs) cs).bind fun b cs => .ok (.bl b) cs := rfl
@[simp] theorem c_isNot {x y : Val} : cmpop .isNot x y cs = (R.of (isV x y cs) cs).bind fun b cs => .ok (.bl (!b)) cs := rfl
@[simp] theorem c_in {x y : Val} : cmpop .isIn x y cs = (R.of (inV' x y cs) cs).bind fun b cs => .ok (.bl b) cs := rfl
@[simp] theorem c_notIn {x y : Val} : cmpop .notIn x y cs = (R.of (inV' x y cs) cs).bind fun b cs => .ok (.bl (!b)) cs := rfl
@[simp] theorem isV_int {i : Int} : isV (.int i) .non cs = some false := rfl
@[simp] theorem isV_non : isV .non .non cs = some true := rfl
@[simp] theorem isV_str {x : Str} : isV (.str x) .non cs = some false := rfl
@[simp] theorem isV_tup {x : List Val} : isV (.tup x) .non cs = some false := rfl
@[simp] theorem isV_lst {x : List Val} : isV (.lst x) .non cs = some false := rfl
@[simp] theorem isV_bl {b : Bool} : isV (.bl b) .non cs = some false := rfl
@[simp] theorem eqV_int {i j : Int} : eqVal cs (.int i) (.int j) = some (decide (i = j)) := rfl
@[simp] theorem eqV_str {i j : Str} : eqVal cs (.str i) (.str j) = some (decide (i = j)) := rfl
@[simp] theorem szl : sizeLine = 16777216 := rfl
@[simp] theorem nr_non : noRef .non = true := rfl
@[simp] theorem nr_bl {b : Bool} : noRef (.bl b) = true := rfl
@[simp] theorem nr_int {i : Int} : noRef (.int i) = true := rfl
@[simp] theorem nr_str {x : Str} : noRef (.str x) = true := rfl
@[simp] theorem nr_tup {x : List Val} : noRef (.tup x) = true := rfl
@[simp] theorem nr_lst {x : List Val} : noRef (.lst x) = true := rfl
@[simp] theorem nr_fro {x : List Val} : noRef (.fro x) = true := rfl
@[simp] theorem nr_emp : noRef .emp = true := rfl
@[simp] theorem asg_nm {i : Nat} {v : Val} : asgT (.nm i) v σ = some (σ.set i (some v)) := rfl
@[simp] theorem asg_tup {ts : List Tg} {xs : List Val} : asgT (.tp ts) (.tup xs) σ = asgTs ts xs σ := rfl
@[simp] theorem asg_lst {ts : List Tg} {xs : List Val} : asgT (.tp ts) (.lst xs) σ = asgTs ts xs σ := rfl
@[simp] theorem asgs_nil : asgTs [] [] σ = some σ := rfl
theorem asgs_cons {t : Tg} {ts : List Tg} {x : Val} {xs : List Val} : asgTs (t :: ts) (x :: xs) σ = (asgT t x σ).bind fun σ => asgTs ts xs σ := by
  show (match asgT t x σ with | some σ' => asgTs ts xs σ' | none => none) = _
  cases asgT t x σ <;> rfl
@[simp] theorem asgs_nm {i : Nat} {ts : List Tg} {x : Val} {xs : List Val} : asgTs (.nm i :: ts) (x :: xs) σ = asgTs ts xs (σ.set i (some x)) := rfl
@[simp] theorem setAll_nil : setAll σ [] [] = σ := rfl
@[simp] theorem setAll_cons {i : Nat} {is : List Nat} {v : Val} {vs : List Val} : setAll σ (i :: is) (v :: vs) = setAll (σ.set i (some v)) is vs := rfl
@[simp] theorem shape_nil {vs : List Val} : shape [] vs = some [] := rfl
@[simp] theorem shape_inl {i : Nat} {sh : List (Nat ⊕ Val)} {vs : List Val} : shape (.inl i :: sh) vs = vs[i]?.bind fun v => (shape sh vs).map (v :: ·) := by
  unfold shape
  rw [List.mapM_cons]
  show (vs[i]?.bind fun v => Option.bind _ fun ws => some (v :: ws)) = _
  congr 1
  funext v
  generalize (List.mapM (m := Option) _ sh) = o
  cases o <;> rfl
@[simp] theorem shape_inr {d : Val} {sh : List (Nat ⊕ Val)} {vs : List Val} : shape (.inr d :: sh) vs = (shape sh vs).map (d :: ·) := by
  unfold shape
  rw [List.mapM_cons]
  show (Option.bind _ fun ws => some (d :: ws)) = _
  generalize (List.mapM (m := Option) _ sh) = o
  cases o <;> rfl
@[simp] theorem ix_lst {xs : List Val} {i : Int} : ixV (.lst xs) (.int i) cs = R.of (L2.atI xs i) cs := rfl
@[simp] theorem ix_fro {xs : List Val} {i : Int} : ixV (.fro xs) (.int i) cs = R.of (L2.atI xs i) cs := rfl
@[simp] theorem ix_tup {xs : List Val} {i : Int} : ixV (.tup xs) (.int i) cs = R.of (L2.atI xs i) cs := rfl
theorem atI_at {α : Type} {xs : List α} {n : Nat} (h : n < xs.length) : L2.atI xs (n : Int) = xs[n]? := by
  unfold L2.atI L2.ixN
  rw [if_pos (by omega), if_pos (by omega)]
  simp
@[simp] theorem atI_0 {α : Type} {x : α} {xs : List α} : L2.atI (x :: xs) 0 = some x := atI_at (n := 0) (by simp)
@[simp] theorem atI_1 {α : Type} {x y : α} {xs : List α} : L2.atI (x :: y :: xs) 1 = some y := atI_at (n := 1) (by simp)
theorem log2_lt {i : Int} (h : -(10 ^ 200) < i) (h2 : i < 10 ^ 200) : i.natAbs.log2 < 1000 := by
  by_cases z : i.natAbs = 0
  · rw [z]; decide
  · rw [Nat.log2_lt z]
    have : i.natAbs < 10 ^ 200 := by omega
    exact Nat.lt_trans this (by decide +kernel)
theorem b_mulS {i j : Int} (h : (-(10 ^ 200) < i ∧ i < 10 ^ 200) ∧ -(10 ^ 200) < j ∧ j < 10 ^ 200) : binop .mul (.int i) (.int j) cs = .ok (.int (i * j)) cs := by
  have h1 := log2_lt h.1.1 h.1.2
  have h2 := log2_lt h.2.1 h.2.2
  exact b_mul (by omega)
theorem b_fdivS {i j : Int} (h : 0 < j ∧ j < 10 ^ 200) : binop .fdiv (.int i) (.int j) cs = .ok (.int (i / j)) cs := by
  have h1 := log2_lt (i := j) (by omega) h.2
  exact b_fdiv h.1 (by omega)
@[simp] theorem p_abs {i : Int} : primV .abs [.int i] cs = .ok (.int (if i < 0 then -i else i)) cs := rfl
theorem chk_rng1 {n : Int} {xs : List Val} (h : itemsOf .rng1 [.int n] cs = some xs) {cs' : Cells} : chkOf .rng1 [.int n] xs cs' = true := decide_eq_true h
theorem sub_dict {r : Nat} {kvs : List (L2.Key × Val)} {k : Str} {y : Val} (h : cs[r]? = some (.dict kvs)) (hn : noRef y = true) (hl : kvs.length < sizeLine) : subV (.ref r) (.str k) y σ cs = .ok (.nx σ) (cs.set r (.dict (putD kvs (.inr k) y))) := by
  simp only [subV, h, hn, decide_eq_true hl, Bool.and_self, if_true]
end
end Ps

set_option maxHeartbeats 1000000
/-! PsLib: what the shared defs do. -/
namespace Ps
open PySem
def F__law_mixed : Fn := ⟨2, 3,
  [(.asg (.nm 2) (.bin .add (.bin .add (.bin .mod (.var 0) (.ix (.lst [(.const (.int (1000000007))), (.const (.int (998244353))), (.const (.int (2147483629))), (.const (.int (1000000009)))]) (.bin .mod (.var 1) (.const (.int (4)))))) (.bin .mul (.const (.int (7919))) (.var 1))) (.const (.int (13))))),
   (.ret (.bin .mod (.bin .mul (.bin .mod (.bin .mul (.var 2) (.var 2)) (.const (.int (2147483647)))) (.const (.int (48271)))) (.const (.int (2147483647)))))]⟩
def F__law_draw : Fn := ⟨2, 2,
  [(.ret (.dict ["left", "cell", "turns"] [(.ite (.cmp .ge (.var 0) (.bin .pow (.const (.int (10))) (.const (.int (18))))) (.var 0) (.const (.int (0)))), (.var 0), (.bin .mul (.const (.int (1000))) (.var 1))]))]⟩
def F__law_digit : Fn := ⟨2, 4,
  [(.ite (.cmp .eq (.ix (.var 0) (.const (.str "left"))) (.const (.int (0)))) [(.for_ (.nm 3) .rng1 [(.const (.int (4)))] [(.sub (.var 0) (.const (.str "turns")) (.bin .add (.ix (.var 0) (.const (.str "turns"))) (.const (.int (1))))), (.sub (.var 0) (.const (.str "left")) (.bin .add (.bin .mul (.ix (.var 0) (.const (.str "left"))) (.const (.int (2147483647)))) (.call "_law_mixed" [(.ix (.var 0) (.const (.str "cell"))), (.ix (.var 0) (.const (.str "turns")))] [.inl 0, .inl 1])))])] []),
   (.asg (.nm 2) (.bin .mod (.ix (.var 0) (.const (.str "left"))) (.var 1))),
   (.sub (.var 0) (.const (.str "left")) (.bin .fdiv (.ix (.var 0) (.const (.str "left"))) (.var 1))),
   (.ret (.var 2))]⟩
def F__law_lowest : Fn := ⟨2, 4,
  [(.asg (.tp [(.nm 0), (.nm 1)]) (.ite (.cmp .lt (.var 1) (.const (.int (0)))) (.tup [(.bin .sub (.const (.int (0))) (.var 0)), (.bin .sub (.const (.int (0))) (.var 1))]) (.tup [(.var 0), (.var 1)]))),
   (.par [2, 3] [(.var 1), (.prim .abs [(.var 0)])]),
   (.while_ (.cmp .gt (.var 3) (.const (.int (0)))) [(.par [2, 3] [(.var 3), (.bin .mod (.var 2) (.var 3))])]),
   (.ret (.tup [(.bin .fdiv (.var 0) (.var 2)), (.bin .fdiv (.var 1) (.var 2))]))]⟩
def F__law_fraction : Fn := ⟨1, 3,
  [(.par [1, 2] [(.call "_law_digit" [(.var 0), (.const (.int (6)))] [.inl 0, .inl 1]), (.bin .add (.const (.int (1))) (.call "_law_digit" [(.var 0), (.ix (.lst [(.const (.int (1))), (.const (.int (4))), (.const (.int (9))), (.const (.int (100)))]) (.call "_law_digit" [(.var 0), (.const (.int (4)))] [.inl 0, .inl 1]))] [.inl 0, .inl 1]))]),
   (.ite (.cmp .eq (.var 1) (.const (.int (5)))) [(.ret (.call "_law_lowest" [(.bin .sub (.call "_law_digit" [(.var 0), (.bin .pow (.const (.int (10))) (.const (.int (30))))] [.inl 0, .inl 1]) (.bin .mul (.const (.int (5))) (.bin .pow (.const (.int (10))) (.const (.int (29)))))), (.bin .add (.const (.int (1))) (.call "_law_digit" [(.var 0), (.bin .pow (.const (.int (10))) (.const (.int (20))))] [.inl 0, .inl 1]))] [.inl 0, .inl 1]))] []),
   (.ret (.call "_law_lowest" [(.bin .sub (.call "_law_digit" [(.var 0), (.ix (.lst [(.const (.int (1))), (.const (.int (9))), (.const (.int (40))), (.const (.int (4000))), (.const (.int (25)))]) (.var 1))] [.inl 0, .inl 1]) (.ix (.lst [(.const (.int (0))), (.const (.int (4))), (.const (.int (20))), (.const (.int (2000))), (.const (.int (0)))]) (.var 1))), (.var 2)] [.inl 0, .inl 1]))]⟩

/-- the table has the def -/
abbrev Has (tb : List (Str × Fn)) (f : Str) (d : Fn) : Prop := tb.lookup f = some d
section
variable {tb : List (Str × Fn)} {cs : Cells}
theorem cases4 {i : Int} (h : 0 ≤ i) (h2 : i < 4) : i = 0 ∨ i = 1 ∨ i = 2 ∨ i = 3 := by omega
theorem mixed_eq (h : Has tb "_law_mixed" F__law_mixed) (k : Nat) (c t : Int) (ht : 0 ≤ t ∧ t < 10 ^ 100) : ∃ r : Int, 0 ≤ r ∧ r < 2147483647 ∧ callAt tb (k + 1) "_law_mixed" [.int c, .int t] cs = .ok (.int r) cs := by
  have hm : ∃ m : Int, 0 < m ∧ m < 10 ^ 11 ∧ L2.atI [Val.int 1000000007, Val.int 998244353, Val.int 2147483629, Val.int 1000000009] (t % 4) = some (.int m) := by
    rcases cases4 (Int.emod_nonneg t (by decide)) (Int.emod_lt_of_pos t (by decide)) with e | e | e | e <;> rw [e]
    · exact ⟨1000000007, by decide, by decide, rfl⟩
    · exact ⟨998244353, by decide, by decide, rfl⟩
    · exact ⟨2147483629, by decide, by decide, rfl⟩
    · exact ⟨1000000009, by decide, by decide, rfl⟩
  obtain ⟨m, m1, m2, em⟩ := hm
  have b1 := Int.emod_nonneg c (b := m) (by omega)
  have b2 := Int.emod_lt_of_pos c m1
  have hq : ∃ q, c % m + 7919 * t + 13 = q ∧ -(10 ^ 200) < q ∧ q < 10 ^ 200 := ⟨_, rfl, by omega, by omega⟩
  obtain ⟨q, eq, q1, q2⟩ := hq
  have b3 := Int.emod_nonneg (q * q) (b := 2147483647) (by decide)
  have b4 := Int.emod_lt_of_pos (q * q) (b := 2147483647) (by decide)
  refine ⟨q * q % 2147483647 * 48271 % 2147483647, Int.emod_nonneg _ (by decide), Int.emod_lt_of_pos _ (by decide), ?_⟩
  rw [call_eq h rfl]
  have e1 : binop .mul (.int 7919) (.int t) cs = .ok (.int (7919 * t)) cs := b_mulS (by omega)
  have e2 : binop .mul (.int q) (.int q) cs = .ok (.int (q * q)) cs := b_mulS ⟨⟨q1, q2⟩, q1, q2⟩
  have e3 : binop .mul (.int (q * q % 2147483647)) (.int 48271) cs = .ok (.int (q * q % 2147483647 * 48271)) cs := b_mulS (by omega)
  simp [F__law_mixed, b_mod', em, m1, e1, eq, e2, e3]
/-- the state that digits are drawn from -/
def Dst (l c t : Int) : Cell := .dict [(.inr "left", .int l), (.inr "cell", .int c), (.inr "turns", .int t)]
/-- n more digits may be drawn -/
def Good (D : Cell) (n : Nat) : Prop := ∃ l c t, D = Dst l c t ∧ 0 ≤ l ∧ 0 ≤ t ∧ t + 4 * n ≤ 10 ^ 50
theorem Good.less {D : Cell} {n m : Nat} (h : Good D n) (l : m ≤ n) : Good D m := by
  obtain ⟨a, b, c, e, h1, h2, h3⟩ := h
  exact ⟨a, b, c, e, h1, h2, by omega⟩
section
variable {r : Nat} {l c t : Int} {σ : Slots}
theorem ix_left (h : cs[r]? = some (Dst l c t)) : ixV (.ref r) (.str "left") cs = .ok (.int l) cs := by
  show (match cs[r]? with | some (.dict kvs) => R.of (getD kvs (.inr "left")) cs | _ => .stuck) = _
  rw [h]
  rfl
theorem ix_cell (h : cs[r]? = some (Dst l c t)) : ixV (.ref r) (.str "cell") cs = .ok (.int c) cs := by
  show (match cs[r]? with | some (.dict kvs) => R.of (getD kvs (.inr "cell")) cs | _ => .stuck) = _
  rw [h]
  rfl
theorem ix_turns (h : cs[r]? = some (Dst l c t)) : ixV (.ref r) (.str "turns") cs = .ok (.int t) cs := by
  show (match cs[r]? with | some (.dict kvs) => R.of (getD kvs (.inr "turns")) cs | _ => .stuck) = _
  rw [h]
  rfl
theorem sub_left {i : Int} (h : cs[r]? = some (Dst l c t)) : subV (.ref r) (.str "left") (.int i) σ cs = .ok (.nx σ) (cs.set r (Dst i c t)) := sub_dict h rfl (by simp)
theorem sub_turns {i : Int} (h : cs[r]? = some (Dst l c t)) : subV (.ref r) (.str "turns") (.int i) σ cs = .ok (.nx σ) (cs.set r (Dst l c i)) := sub_dict h rfl (by simp)
end
theorem draw_eq (h : Has tb "_law_draw" F__law_draw) (k : Nat) (c j : Int) (hj : 0 ≤ j ∧ j < 10 ^ 30) : ∃ D, Good D (10 ^ 40) ∧ callAt tb (k + 1) "_law_draw" [.int c, .int j] cs = .ok (.ref cs.length) (cs ++ [D]) := by
  have e1 : binop .mul (.int 1000) (.int j) cs = .ok (.int (1000 * j)) cs := b_mulS (by omega)
  have e2 : binop .pow (.int 10) (.int 18) cs = .ok (.int 1000000000000000000) cs := b_pow (by decide)
  have n1 : ¬ Str.ofString "left" = Str.ofString "cell" := by decide
  have n2 : ¬ Str.ofString "left" = Str.ofString "turns" := by decide
  have n3 : ¬ Str.ofString "cell" = Str.ofString "turns" := by decide
  rw [call_eq h rfl]
  by_cases g : 1000000000000000000 ≤ c
  · refine ⟨Dst c c (1000 * j), ⟨c, c, _, rfl, by omega, by omega, by omega⟩, ?_⟩
    simp [F__law_draw, e1, e2, g, Dst, n1, n2, n3]
  · refine ⟨Dst 0 c (1000 * j), ⟨0, c, _, rfl, by omega, by omega, by omega⟩, ?_⟩
    simp [F__law_draw, e1, e2, g, Dst, n1, n2, n3]
theorem digit_wp (h1 : Has tb "_law_mixed" F__law_mixed) (h2 : Has tb "_law_digit" F__law_digit) {k n r : Nat} {D : Cell} {m : Int} {Q : Val → Cells → Prop} (hr : cs[r]? = some D) (hD : Good D (n + 1)) (hm : 0 < m ∧ m < 10 ^ 200)
    (q : ∀ (d : Int) (D' : Cell), 0 ≤ d → d < m → Good D' n → Q (.int d) (cs.set r D')) : Wp (callAt tb (k + 2) "_law_digit" [.ref r, .int m] cs) Q := by
  obtain ⟨l, c, t, rfl, l0, t0, tn⟩ := hD
  have hlt : r < cs.length := (List.getElem?_eq_some_iff.mp hr).1
  have at_ : ∀ D', (cs.set r D')[r]? = some D' := fun D' => by simp [hlt]
  -- what stands behind the first statement
  have last : ∀ (l' t' : Int) (σ : Slots), 0 ≤ l' → 0 ≤ t' → t' ≤ t + 4 → Wp (exs (callAt tb (k + 1)) (F__law_digit.body.drop 1) [some (.ref r), some (.int m), none, σ.head?.join] (cs.set r (Dst l' c t'))) fun o cs' => Wp (leave cs.length (.ok o cs')) Q := by
    intro l' t' σ hl ht ht2
    have b1 := Int.emod_nonneg l' (b := m) (by omega)
    have b2 := Int.emod_lt_of_pos l' hm.1
    have g := q (l' % m) (Dst (l' / m) c t') b1 b2 ⟨_, _, _, rfl, Int.ediv_nonneg hl (by omega), ht, by omega⟩
    simp [F__law_digit, ix_left (at_ _), b_mod' hm.1, b_fdivS hm, sub_left (at_ _)]
    exact g
  have e0 : cs.set r (Dst l c t) = cs := by
    apply List.ext_getElem?
    intro j
    by_cases e : r = j
    · subst e; rw [at_, hr]
    · rw [List.getElem?_set_ne e]
  refine call_wp h2 rfl ?_
  rw [show F__law_digit.body = .ite (.cmp .eq (.ix (.var 0) (.const (.str "left"))) (.const (.int 0))) [.for_ (.nm 3) .rng1 [.const (.int 4)] [(.sub (.var 0) (.const (.str "turns")) (.bin .add (.ix (.var 0) (.const (.str "turns"))) (.const (.int (1))))), (.sub (.var 0) (.const (.str "left")) (.bin .add (.bin .mul (.ix (.var 0) (.const (.str "left"))) (.const (.int (2147483647)))) (.call "_law_mixed" [(.ix (.var 0) (.const (.str "cell"))), (.ix (.var 0) (.const (.str "turns")))] [.inl 0, .inl 1])))]] [] :: F__law_digit.body.drop 1 from rfl, exs_cons, wp_bind]
  by_cases hl : l = 0
  · subst hl
    simp [ix_left hr, ex_for]
    have hi : itemsOf .rng1 [.int 4] cs = some [.int 0, .int 1, .int 2, .int 3] := rfl
    rw [hi]
    simp
    refine for_wp (fun xs σ cs' => ∃ (l' t' : Int) (v : Option Val) (j : Nat), σ = [some (.ref r), some (.int m), none, v] ∧ cs' = cs.set r (Dst l' c t') ∧ j + xs.length = 4 ∧ 0 ≤ l' ∧ l' < 2147483647 ^ j ∧ 0 ≤ t' ∧ t' = t + j)
      ⟨0, t, none, 0, rfl, e0.symm, rfl, by decide, by decide, t0, by omega⟩ ?_ ?_
    · rintro σ cs' ⟨l', t', v, j, rfl, rfl, hj, g1, g2, g3, g4⟩
      simp at hj
      exact last l' t' [v] g1 g3 (by omega)
    · rintro x xs σ cs' ⟨l', t', v, j, rfl, rfl, hj, g1, g2, g3, g4⟩
      have hj2 : j ≤ 3 := by simp at hj; omega
      have hb : (2147483647 : Int) ^ j ≤ 2147483647 ^ 3 := by
        rcases (by omega : j = 0 ∨ j = 1 ∨ j = 2 ∨ j = 3) with rfl | rfl | rfl | rfl <;> decide
      have hb2 : (2147483647 : Int) ^ 3 < 10 ^ 100 := by decide
      obtain ⟨z, z1, z2, ez⟩ := mixed_eq (tb := tb) (cs := cs.set r (Dst l' c (t' + 1))) h1 k c (t' + 1) (by omega)
      have em : ∀ {cs : Cells}, binop .mul (.int l') (.int 2147483647) cs = .ok (.int (l' * 2147483647)) cs := b_mulS (by omega)
      simp [ix_turns (at_ _), sub_turns (at_ _), ix_left (at_ _), ix_cell (at_ _), em, ez, sub_left (at_ _), chk_rng1 hi]
      refine ⟨_, _, rfl, j + 1, by simp at hj; omega, by omega, ?_, by omega, by omega⟩
      rw [Int.pow_succ]
      generalize (2147483647 : Int) ^ j = P at g2 ⊢
      omega
  · simp [ix_left hr, hl]
    have := last l t [none] l0 t0 (by omega)
    rw [e0] at this
    exact this
/-- Euclid's loop -/
theorem gcd_loop {cl : Cl} {cond : E} {a b : Option Val} {Q : Out → Cells → Prop} (hcond : ∀ (x y : Nat), tst cl cond [a, b, some (.int x), some (.int y)] cs = .ok (decide (y ≠ 0)) cs) : ∀ {X Y : Int} (x y : Nat), X = x → Y = y → y < 10 ^ 1000 → Q (.nx [a, b, some (.int (Nat.gcd x y)), some (.int 0)]) cs →
    Wp (ex cl (.while_ cond [(.par [2, 3] [(.var 3), (.bin .mod (.var 2) (.var 3))])]) [a, b, some (.int X), some (.int Y)] cs) Q := by
  intro X Y x y eX eY hy q
  subst eX eY
  rw [ex_while]
  refine wh_wp (fun n σ cs' => ∃ u v : Nat, σ = [a, b, some (.int u), some (.int v)] ∧ cs' = cs ∧ n = v ∧ Nat.gcd u v = Nat.gcd x y) ?_ FUEL y _ _ (Nat.lt_trans hy fuel_big) ⟨x, y, rfl, rfl, rfl, rfl⟩
  rintro n σ cs' ⟨u, v, rfl, rfl, rfl, hg⟩
  rw [hcond]
  by_cases hv : n = 0
  · subst hv
    rw [← hg, Nat.gcd_zero_right] at q
    simpa using q
  · have hp : (0 : Int) < n := by omega
    simp [hv, b_mod' hp]
    refine ⟨u % n, Nat.mod_lt _ (Nat.pos_of_ne_zero hv), n, u % n, ⟨rfl, by simp⟩, rfl, ?_⟩
    rw [← hg, Nat.gcd_comm u n, Nat.gcd_rec n u, Nat.gcd_comm]
theorem lowest_eq (h : Has tb "_law_lowest" F__law_lowest) (k : Nat) {a b : Int} (hb : 0 < b) (h1 : a.natAbs < 10 ^ 200) (h2 : b < 10 ^ 200) : callAt tb (k + 1) "_law_lowest" [.int a, .int b] cs = .ok (.tup [.int (a / (Nat.gcd b.natAbs a.natAbs : Nat)), .int (b / (Nat.gcd b.natAbs a.natAbs : Nat))]) cs := by
  suffices w : Wp (callAt tb (k + 1) "_law_lowest" [.int a, .int b] cs) fun v cs' => v = .tup [.int (a / (Nat.gcd b.natAbs a.natAbs : Nat)), .int (b / (Nat.gcd b.natAbs a.natAbs : Nat))] ∧ cs' = cs by
    obtain ⟨v, cs', e, rfl, rfl⟩ := w.ex
    exact e
  refine call_wp h rfl ?_
  have hn : ¬ b < 0 := by omega
  have ha : (if a < 0 then -a else a) = (a.natAbs : Int) := by split <;> omega
  have eb : b = (b.natAbs : Int) := by omega
  simp [F__law_lowest, hn]
  have g0 : 0 < Nat.gcd b.natAbs a.natAbs := Nat.gcd_pos_of_pos_left _ (by omega)
  have g1 : Nat.gcd b.natAbs a.natAbs ≤ b.natAbs := Nat.gcd_le_left _ (by omega)
  have dv : ∀ {i : Int} {cs : Cells}, binop .fdiv (.int i) (.int (Nat.gcd b.natAbs a.natAbs : Nat)) cs = .ok (.int (i / (Nat.gcd b.natAbs a.natAbs : Nat))) cs := b_fdivS (by omega)
  refine gcd_loop (fun x y => ?_) b.natAbs a.natAbs eb ha (Nat.lt_trans h1 (by decide +kernel)) ?_
  · simp
    by_cases e : y = 0 <;> simp [e]
    omega
  simp [dv]
/-- in lowest terms, not too great -/
def Frac (a b : Int) : Prop := 0 < b ∧ b < 10 ^ 21 ∧ a.natAbs < 10 ^ 31 ∧ Nat.gcd a.natAbs b.natAbs = 1
theorem low_frac {a b : Int} (hb : 0 < b) (h1 : b < 10 ^ 21) (h2 : a.natAbs < 10 ^ 31) : Frac (a / (Nat.gcd b.natAbs a.natAbs : Nat)) (b / (Nat.gcd b.natAbs a.natAbs : Nat)) := by
  have g0 : 0 < Nat.gcd b.natAbs a.natAbs := Nat.gcd_pos_of_pos_left _ (by omega)
  generalize hg : Nat.gcd b.natAbs a.natAbs = g at g0 ⊢
  have db : g ∣ b.natAbs := by rw [← hg]; exact Nat.gcd_dvd_left _ _
  have da : g ∣ a.natAbs := by rw [← hg]; exact Nat.gcd_dvd_right _ _
  have ea : (a / (g : Int)).natAbs = a.natAbs / g := by
    obtain ⟨q, e⟩ := Int.ofNat_dvd_left.mpr da
    rw [e, Int.mul_ediv_cancel_left _ (by omega), Int.natAbs_mul, Int.natAbs_natCast, Nat.mul_div_cancel_left _ g0]
  have eb : (b / (g : Int)).natAbs = b.natAbs / g := by
    obtain ⟨q, e⟩ := Int.ofNat_dvd_left.mpr db
    rw [e, Int.mul_ediv_cancel_left _ (by omega), Int.natAbs_mul, Int.natAbs_natCast, Nat.mul_div_cancel_left _ g0]
  have bq : 0 < b.natAbs / g := Nat.div_pos (Nat.le_of_dvd (by omega) db) g0
  have bn : 0 ≤ b / (g : Int) := Int.ediv_nonneg (by omega) (by omega)
  have l1 := Nat.div_le_self b.natAbs g
  have l2 := Nat.div_le_self a.natAbs g
  refine ⟨by omega, by omega, by omega, ?_⟩
  rw [ea, eb, Nat.gcd_div da db, Nat.gcd_comm, hg, Nat.div_self g0]
theorem fraction_wp (h1 : Has tb "_law_mixed" F__law_mixed) (h2 : Has tb "_law_digit" F__law_digit) (h3 : Has tb "_law_lowest" F__law_lowest) (h4 : Has tb "_law_fraction" F__law_fraction) {k n r : Nat} {D : Cell} {Q : Val → Cells → Prop} (hr : cs[r]? = some D) (hD : Good D (n + 5))
    (q : ∀ (a b : Int) (D' : Cell), Frac a b → Good D' n → Q (.tup [.int a, .int b]) (cs.set r D')) : Wp (callAt tb (k + 3) "_law_fraction" [.ref r] cs) Q := by
  have hlt : r < cs.length := (List.getElem?_eq_some_iff.mp hr).1
  have at_ : ∀ D', (cs.set r D')[r]? = some D' := fun D' => by simp [hlt]
  have low : ∀ {cs : Cells} {a b : Int}, 0 < b → b < 10 ^ 21 → a.natAbs < 10 ^ 31 → callAt tb (k + 2) "_law_lowest" [.int a, .int b] cs = .ok (.tup [.int (a / (Nat.gcd b.natAbs a.natAbs : Nat)), .int (b / (Nat.gcd b.natAbs a.natAbs : Nat))]) cs := fun g1 g2 g3 => lowest_eq h3 (k + 1) g1 (by omega) (by omega)
  refine call_wp h4 rfl ?_
  simp [F__law_fraction]
  refine digit_wp h1 h2 hr hD (by decide) fun w D1 w0 w1 G1 => ?_
  simp
  refine digit_wp h1 h2 (at_ _) G1 (by decide) fun i D2 i0 i1 G2 => ?_
  have hm : ∃ m : Int, 0 < m ∧ m ≤ 100 ∧ L2.atI [Val.int 1, .int 4, .int 9, .int 100] i = some (.int m) := by
    rcases cases4 i0 i1 with e | e | e | e <;> rw [e]
    · exact ⟨1, by decide, by decide, rfl⟩
    · exact ⟨4, by decide, by decide, rfl⟩
    · exact ⟨9, by decide, by decide, rfl⟩
    · exact ⟨100, by decide, by decide, rfl⟩
  obtain ⟨m, m1, m2, em⟩ := hm
  simp [em]
  refine digit_wp h1 h2 (at_ _) G2 (by omega) fun b D3 b0 b1 G3 => ?_
  simp
  by_cases hw : w = 5
  · have p1 : ∀ {cs : Cells}, binop .pow (.int 10) (.int 30) cs = .ok (.int (10 ^ 30)) cs := b_pow (by decide)
    have p2 : ∀ {cs : Cells}, binop .pow (.int 10) (.int 29) cs = .ok (.int (10 ^ 29)) cs := b_pow (by decide)
    have p3 : ∀ {cs : Cells}, binop .pow (.int 10) (.int 20) cs = .ok (.int (10 ^ 20)) cs := b_pow (by decide)
    have p4 : ∀ {cs : Cells}, binop .mul (.int 5) (.int (10 ^ 29)) cs = .ok (.int (5 * 10 ^ 29)) cs := b_mulS (by decide)
    simp [hw, p1]
    refine digit_wp h1 h2 (at_ _) G3 (by decide) fun x D4 x0 x1 G4 => ?_
    simp [p2, p4, p3]
    refine digit_wp h1 h2 (at_ _) G4 (by decide) fun y D5 y0 y1 G5 => ?_
    simp
    rw [low (by omega) (by omega) (by omega)]
    simp
    exact q _ _ _ (low_frac (by omega) (by omega) (by omega)) G5
  · have hx : ∃ x y : Int, 0 < x ∧ x ≤ 4000 ∧ 0 ≤ y ∧ y ≤ 2000 ∧ L2.atI [Val.int 1, .int 9, .int 40, .int 4000, .int 25] w = some (.int x) ∧ L2.atI [Val.int 0, .int 4, .int 20, .int 2000, .int 0] w = some (.int y) := by
      rcases (by omega : w = 0 ∨ w = 1 ∨ w = 2 ∨ w = 3 ∨ w = 4) with e | e | e | e | e <;> rw [e]
      · exact ⟨1, 0, by decide, by decide, by decide, by decide, rfl, rfl⟩
      · exact ⟨9, 4, by decide, by decide, by decide, by decide, rfl, rfl⟩
      · exact ⟨40, 20, by decide, by decide, by decide, by decide, rfl, rfl⟩
      · exact ⟨4000, 2000, by decide, by decide, by decide, by decide, rfl, rfl⟩
      · exact ⟨25, 0, by decide, by decide, by decide, by decide, rfl, rfl⟩
    obtain ⟨x, y, x1, x2, y1, y2, ex, ey⟩ := hx
    simp [hw, ex]
    refine digit_wp h1 h2 (at_ _) G3 (by omega) fun z D4 z0 z1 G4 => ?_
    simp [ey]
    rw [low (by omega) (by omega) (by omega)]
    simp
    exact q _ _ _ (low_frac (by omega) (by omega) (by omega)) (G4.less (by omega))
end
end Ps

set_option maxHeartbeats 1000000
/-! PsWords: is_whole, number_of, signed_of, common_part, is_fraction, read_fraction and the laws' own of them. -/
namespace Ps
open PySem L2
def F_is_whole : Fn := ⟨1, 1,
  [(.ret (.and_ (.prim .isInst [(.var 0), (.const (.ty "int"))]) (.not_ (.prim .isInst [(.var 0), (.const (.ty "bool"))]))))]⟩
def F_number_of : Fn := ⟨1, 2,
  [(.ite (.or_ (.not_ (.prim .isInst [(.var 0), (.const (.ty "str"))])) (.or_ (.not_ (.chain .le .le (.const (.int (1))) (.prim .len [(.var 0)]) (.const (.int (4))))) (.not_ (.prim .all [(.lcomp (.cmp .isIn (.var 1) (.const (.str "0123456789"))) (.nm 1) .val [(.var 0)] [] [1])])))) [(.ret (.const .non))] []),
   (.ret (.ite (.and_ (.cmp .gt (.prim .len [(.var 0)]) (.const (.int (1)))) (.cmp .eq (.ix (.var 0) (.const (.int (0)))) (.const (.str "0")))) (.const .non) (.prim .int [(.var 0)])))]⟩
def F_signed_of : Fn := ⟨1, 2,
  [(.ite (.or_ (.not_ (.prim .isInst [(.var 0), (.const (.ty "str"))])) (.not_ (.smeth .startswith (.var 0) [(.const (.str "-"))]))) [(.ret (.call "number_of" [(.var 0)] [.inl 0]))] []),
   (.asg (.nm 1) (.call "number_of" [(.slice (.var 0) (.const (.int (1))) (.const .non) true false)] [.inl 0])),
   (.ret (.ite (.or_ (.cmp .is_ (.var 1) (.const .non)) (.cmp .eq (.var 1) (.const (.int (0))))) (.const .non) (.bin .sub (.const (.int (0))) (.var 1))))]⟩
def F_common_part : Fn := ⟨2, 4,
  [(.par [2, 3] [(.prim .abs [(.var 0)]), (.prim .abs [(.var 1)])]),
   (.while_ (.cmp .ne (.var 3) (.const (.int (0)))) [(.par [2, 3] [(.var 3), (.bin .mod (.var 2) (.var 3))])]),
   (.ret (.var 2))]⟩
def F_is_fraction : Fn := ⟨2, 2,
  [(.ite (.or_ (.not_ (.prim .isInst [(.var 0), (.const (.ty "tuple"))])) (.or_ (.cmp .ne (.prim .len [(.var 0)]) (.const (.int (2)))) (.or_ (.not_ (.call "is_whole" [(.ix (.var 0) (.const (.int (0))))] [.inl 0])) (.not_ (.call "is_whole" [(.ix (.var 0) (.const (.int (1))))] [.inl 0]))))) [(.ret (.const (.bl false)))] []),
   (.ite (.or_ (.cmp .lt (.ix (.var 0) (.const (.int (1)))) (.const (.int (1)))) (.cmp .ne (.call "common_part" [(.ix (.var 0) (.const (.int (0)))), (.ix (.var 0) (.const (.int (1))))] [.inl 0, .inl 1]) (.const (.int (1))))) [(.ret (.const (.bl false)))] []),
   (.ret (.or_ (.cmp .is_ (.var 1) (.const .non)) (.cmp .le (.prim .max [(.prim .abs [(.ix (.var 0) (.const (.int (0))))]), (.ix (.var 0) (.const (.int (1))))]) (.var 1))))]⟩
def F_fraction_text : Fn := ⟨1, 3,
  [(.asg (.tp [(.nm 1), (.nm 2)]) (.var 0)),
   (.ret (.ite (.cmp .eq (.var 2) (.const (.int (1)))) (.prim .str [(.var 1)]) (.fstr [(.fmt (.var 1)), (.const (.str "/")), (.fmt (.var 2))])))]⟩
def F_read_fraction : Fn := ⟨1, 5,
  [(.ite (.not_ (.prim .isInst [(.var 0), (.const (.ty "str"))])) [(.ret (.const .non))] []),
   (.star [1, 4] 1 (.smeth .split (.var 0) [(.const (.str "/"))])),
   (.par [2, 3] [(.call "signed_of" [(.var 1)] [.inl 0]), (.const (.int (1)))]),
   (.ite (.cmp .ne (.var 4) (.lst [])) [(.asg (.nm 3) (.ite (.cmp .eq (.prim .len [(.var 4)]) (.const (.int (1)))) (.call "number_of" [(.ix (.var 4) (.const (.int (0))))] [.inl 0]) (.const .non))), (.ite (.or_ (.cmp .is_ (.var 3) (.const .non)) (.cmp .lt (.var 3) (.const (.int (2))))) [(.ret (.const .non))] [])] []),
   (.ret (.ite (.and_ (.cmp .isNot (.var 2) (.const .non)) (.call "is_fraction" [(.tup [(.var 2), (.var 3)])] [.inl 0, .inr .non])) (.tup [(.var 2), (.var 3)]) (.const .non)))]⟩
def F__law_number : Fn := ⟨1, 3,
  [(.asg (.nm 1) (.lcomp (.var 2) (.nm 2) .val [(.var 0)] [(.cmp .notIn (.var 2) (.const (.str "0123456789")))] [2])),
   (.ite (.or_ (.cmp .eq (.var 0) (.const (.str ""))) (.or_ (.cmp .ne (.var 1) (.lst [])) (.or_ (.cmp .gt (.prim .len [(.var 0)]) (.const (.int (4)))) (.and_ (.cmp .gt (.prim .len [(.var 0)]) (.const (.int (1)))) (.cmp .eq (.ix (.var 0) (.const (.int (0)))) (.const (.str "0"))))))) [(.ret (.const .non))] []),
   (.ret (.prim .int [(.var 0)]))]⟩
def F__law_due : Fn := ⟨1, 4,
  [(.ite (.not_ (.prim .isInst [(.var 0), (.const (.ty "str"))])) [(.ret (.const .non))] []),
   (.asg (.nm 1) (.smeth .split (.var 0) [(.const (.str "/"))])),
   (.asg (.nm 2) (.call "_law_number" [(.ite (.cmp .eq (.slice (.ix (.var 1) (.const (.int (0)))) (.const .non) (.const (.int (1))) false true) (.const (.str "-"))) (.slice (.ix (.var 1) (.const (.int (0)))) (.const (.int (1))) (.const .non) true false) (.ix (.var 1) (.const (.int (0)))))] [.inl 0])),
   (.ite (.or_ (.cmp .is_ (.var 2) (.const .non)) (.or_ (.cmp .gt (.prim .len [(.var 1)]) (.const (.int (2)))) (.and_ (.cmp .eq (.slice (.ix (.var 1) (.const (.int (0)))) (.const .non) (.const (.int (1))) false true) (.const (.str "-"))) (.cmp .eq (.var 2) (.const (.int (0))))))) [(.ret (.const .non))] []),
   (.asg (.nm 2) (.ite (.cmp .eq (.slice (.ix (.var 1) (.const (.int (0)))) (.const .non) (.const (.int (1))) false true) (.const (.str "-"))) (.bin .sub (.const (.int (0))) (.var 2)) (.var 2))),
   (.asg (.nm 3) (.ite (.cmp .eq (.prim .len [(.var 1)]) (.const (.int (1)))) (.const (.int (1))) (.call "_law_number" [(.ix (.var 1) (.const (.int (1))))] [.inl 0]))),
   (.ite (.or_ (.cmp .is_ (.var 3) (.const .non)) (.or_ (.and_ (.cmp .eq (.prim .len [(.var 1)]) (.const (.int (2)))) (.cmp .lt (.var 3) (.const (.int (2))))) (.cmp .ne (.call "_law_lowest" [(.var 2), (.var 3)] [.inl 0, .inl 1]) (.tup [(.var 2), (.var 3)])))) [(.ret (.const .non))] []),
   (.ret (.tup [(.var 2), (.var 3)]))]⟩

section
variable {tb : List (Str × Fn)} {cs : Cells}
/-! ### comprehensions without effects -/
theorem lc_fm {α : Type} {chk : Cells → Bool} {F : Val → Cells → R (Option Val)} (f : α → Val) (g : α → Option Val) (hc : chk cs = true) : ∀ (l : List α) (acc : List Val), (∀ a ∈ l, F (f a) cs = .ok (g a) cs) → (∀ a ∈ l, ∀ v, g a = some v → noRef v = true) → l.length + acc.length ≤ sizeLine → lcLoop chk F (l.map f) cs acc = .ok (acc ++ l.filterMap g) cs
  | [], acc, _, _, _ => by simp [lcLoop]
  | x :: xs, acc, h, hn, hl => by
    rw [List.map_cons]
    unfold lcLoop
    rw [h x List.mem_cons_self]
    rw [List.length_cons] at hl
    cases q : g x with
    | none =>
      simp only [R.bind_ok, hc]
      rw [lc_fm f g hc xs acc (fun y hy => h y (List.mem_cons_of_mem _ hy)) (fun y hy => hn y (List.mem_cons_of_mem _ hy)) (by omega), List.filterMap_cons, q]
    | some v =>
      have n := hn x List.mem_cons_self v q
      simp only [R.bind_ok, hc, n, Bool.true_and]
      rw [if_pos (decide_eq_true (by omega)), lc_fm f g hc xs (acc ++ [v]) (fun y hy => h y (List.mem_cons_of_mem _ hy)) (fun y hy => hn y (List.mem_cons_of_mem _ hy)) (by rw [List.length_append, List.length_singleton]; omega), List.filterMap_cons, q]
      simp
theorem lc_map {α : Type} {chk : Cells → Bool} {F : Val → Cells → R (Option Val)} (f : α → Val) (g : α → Val) (hc : chk cs = true) (l : List α) (h : ∀ a ∈ l, F (f a) cs = .ok (some (g a)) cs) (hn : ∀ a ∈ l, noRef (g a) = true) (hl : l.length ≤ sizeLine) : lcLoop chk F (l.map f) cs [] = .ok (l.map g) cs := by
  rw [lc_fm f (fun a => some (g a)) hc l [] h (fun a ha v e => by cases e; exact hn a ha) (by simpa using hl), List.nil_append, List.filterMap_eq_map']
theorem lc_filter {α : Type} {chk : Cells → Bool} {F : Val → Cells → R (Option Val)} (f : α → Val) (p : α → Bool) (hc : chk cs = true) (l : List α) (h : ∀ a ∈ l, F (f a) cs = .ok (if p a = true then some (f a) else none) cs) (hn : ∀ a ∈ l, noRef (f a) = true) (hl : l.length ≤ sizeLine) : lcLoop chk F (l.map f) cs [] = .ok ((l.filter p).map f) cs := by
  rw [lc_fm f (fun a => if p a = true then some (f a) else none) hc l [] h (fun a ha v e => by split at e <;> cases e; exact hn a ha) (by simpa using hl), List.nil_append]
  congr 1
  induction l with
  | nil => rfl
  | cons a l ih =>
    rw [List.filterMap_cons, List.filter_cons, ih (fun b hb => h b (List.mem_cons_of_mem _ hb)) (fun b hb => hn b (List.mem_cons_of_mem _ hb)) (by simp at hl; simp; omega)]
    split <;> simp_all
@[simp] theorem ii_str_str {x : Str} : primV .isInst [.str x, .ty "str"] cs = .ok (.bl true) cs := rfl
@[simp] theorem ii_int_int {x : Int} : primV .isInst [.int x, .ty "int"] cs = .ok (.bl true) cs := rfl
@[simp] theorem ii_int_bool {x : Int} : primV .isInst [.int x, .ty "bool"] cs = .ok (.bl false) cs := rfl
@[simp] theorem ii_int_str {x : Int} : primV .isInst [.int x, .ty "str"] cs = .ok (.bl false) cs := rfl
@[simp] theorem ii_non_str : primV .isInst [.non, .ty "str"] cs = .ok (.bl false) cs := rfl
@[simp] theorem ii_bl_str {b : Bool} : primV .isInst [.bl b, .ty "str"] cs = .ok (.bl false) cs := rfl
@[simp] theorem ii_tup_str {x : List Val} : primV .isInst [.tup x, .ty "str"] cs = .ok (.bl false) cs := rfl
@[simp] theorem ii_lst_str {x : List Val} : primV .isInst [.lst x, .ty "str"] cs = .ok (.bl false) cs := rfl
@[simp] theorem ii_emp_str : primV .isInst [.emp, .ty "str"] cs = .ok (.bl false) cs := rfl
@[simp] theorem ii_tup_tup {x : List Val} : primV .isInst [.tup x, .ty "tuple"] cs = .ok (.bl true) cs := rfl
@[simp] theorem len_tup {x : List Val} : primV .len [.tup x] cs = .ok (.int x.length) cs := rfl
@[simp] theorem len_lst {x : List Val} : primV .len [.lst x] cs = .ok (.int x.length) cs := rfl
theorem len_str {x : Str} (h : x.length ≤ sizeLine) : primV .len [.str x] cs = .ok (.int x.length) cs := if_pos h
theorem is_whole_eq (h : Has tb "is_whole" F_is_whole) (k : Nat) (i : Int) : callAt tb (k + 1) "is_whole" [.int i] cs = .ok (.bl true) cs := by
  rw [call_eq h rfl]
  simp [F_is_whole]
/-! ### numbers as texts -/
def signs (x : Str) : List Val := x.cps.toList.map fun c => .str ⟨#[c]⟩
theorem it_str {x : Str} : itemsOf .val [.str x] cs = some (signs x) := rfl
theorem chk_str {x : Str} {cs' : Cells} : chkOf .val [.str x] (signs x) cs' = true := decide_eq_true rfl
theorem chk_chars {l : List Nat} {cs' : Cells} : chkOf .val [.str ⟨⟨l⟩⟩] (l.map fun c => .str ⟨#[c]⟩) cs' = true := chk_str
def fig (c : Nat) : Bool := decide (48 ≤ c ∧ c ≤ 57)
theorem in_fig {c : Nat} : inV' (.str ⟨#[c]⟩) (.str "0123456789") cs = some (fig c) := by
  show some (!(Builtin.Str.occurrences (Str.ofString "0123456789") ⟨#[c]⟩ 0 (Str.ofString "0123456789").length 1).isEmpty) = _
  rw [StrLaws.found_one]
  congr 1
  unfold fig
  rw [show (Str.ofString "0123456789").cps.toList = [48, 49, 50, 51, 52, 53, 54, 55, 56, 57] by decide +kernel]
  apply decide_eq_decide.mpr
  simp only [List.mem_cons, List.not_mem_nil, or_false]
  omega
/-- number_of, _law_number of a text -/
def numL' (l : List Nat) : Val := if 1 ≤ l.length ∧ l.length ≤ 4 ∧ l.all fig = true ∧ ¬ (1 < l.length ∧ l.head? = some 48) then .int (NumText.digitsVal l : Nat) else .non
def numV (x : Str) : Val := numL' x.cps.toList
theorem int_fig {l : List Nat} (h : l.all fig = true) (h1 : 1 ≤ l.length) (h2 : l.length ≤ 4) : primV .int [.str ⟨⟨l⟩⟩] cs = .ok (.int (NumText.digitsVal l : Nat)) cs := by
  have e := intText_digits (x := ⟨⟨l⟩⟩) (fun c hc => by simpa [fig] using List.all_eq_true.mp h c hc) (fun z => by have z : l = [] := z; simp [z] at h1) (show l.length ≤ 4300 by omega)
  show (if l.length ≤ 640 then _ else _) = _
  rw [if_pos (by omega), e]
  rfl
theorem bls_map {p : Nat → Bool} : ∀ l : List Nat, blsOf (l.map fun c => Val.bl (p c)) = some (l.map p)
  | [] => rfl
  | c :: l => by simp [blsOf, bls_map l]
theorem all_fig {l : List Nat} : primV .all [.lst (l.map fun c => .bl (fig c))] cs = .ok (.bl (l.all fig)) cs := by
  show (R.of ((some (l.map fun c => Val.bl (fig c))).bind blsOf) cs).bind _ = _
  rw [Option.bind_some, bls_map]
  simp [List.all_map, Function.comp_def]
theorem ix_str {l : List Nat} {i : Int} {c : Nat} (hz : l.length ≤ sizeLine) (h : L2.atI l i = some c) : ixV (.str ⟨⟨l⟩⟩) (.int i) cs = .ok (.str ⟨#[c]⟩) cs := by
  show (if l.length ≤ sizeLine then (R.of (L2.atI l i) cs).bind _ else _) = _
  rw [if_pos hz, h]
  rfl
theorem one_eq {c : Nat} : (decide ((⟨#[c]⟩ : Str) = "0")) = decide (c = 48) := by
  rw [show (Str.ofString "0") = ⟨#[48]⟩ by decide +kernel]
  simp
theorem ev_all_fig {l : List Nat} {cl : Cl} {σ : Option Val} (hz : l.length ≤ sizeLine) : ev cl (.lcomp (.cmp .isIn (.var 1) (.const (.str "0123456789"))) (.nm 1) .val [(.var 0)] [] [1]) [some (.str ⟨⟨l⟩⟩), σ] cs = .ok (.lst (l.map fun c => .bl (fig c))) cs := by
  rw [ev_lcomp]
  simp [it_str]
  rw [show signs ⟨⟨l⟩⟩ = l.map fun c => .str ⟨#[c]⟩ from rfl, lc_map (fun c => Val.str ⟨#[c]⟩) (fun c => .bl (fig c)) chk_chars l _ (fun _ _ => rfl) hz]
  · rfl
  · intro c hc
    simp [lcStep, wipeS, in_fig]
theorem head_ix {l : List Nat} (h : 1 ≤ l.length) (hz : l.length ≤ sizeLine) : ∃ c, l.head? = some c ∧ ixV (.str ⟨⟨l⟩⟩) (.int 0) cs = .ok (.str ⟨#[c]⟩) cs := by
  cases l with
  | nil => simp at h
  | cons c l => exact ⟨c, rfl, ix_str hz atI_0⟩
theorem number_of_eq (h : Has tb "number_of" F_number_of) (k : Nat) (l : List Nat) (hz : l.length ≤ sizeLine) : callAt tb (k + 1) "number_of" [.str ⟨⟨l⟩⟩] cs = .ok (numL' l) cs := by
  rw [call_eq h rfl]
  obtain ⟨N, hN⟩ : ∃ N : Int, N = l.length := ⟨_, rfl⟩
  have ln : primV .len [.str ⟨⟨l⟩⟩] cs = .ok (.int N) cs := by rw [hN]; exact len_str hz
  by_cases h1 : 1 ≤ l.length
  · obtain ⟨c, c1, i0⟩ := head_ix (cs := cs) h1 hz
    have d1 : 1 ≤ N := by omega
    by_cases h2 : l.length ≤ 4
    · have d2 : N ≤ 4 := by omega
      cases h3 : l.all fig with
      | true =>
        have ii := int_fig (cs := cs) h3 h1 h2
        by_cases h4 : 1 < l.length
        · have d4 : 1 < N := by omega
          by_cases h5 : c = 48
          · simp [F_number_of, ev_all_fig hz, all_fig, ln, i0, one_eq, h5, ii, h3, d1, d2, d4, numL', h4, c1]
          · simp [F_number_of, ev_all_fig hz, all_fig, ln, i0, one_eq, h5, ii, h3, d1, d2, d4, numL', h4, c1, h1, h2]
        · have d4 : ¬ 1 < N := by omega
          simp [F_number_of, ev_all_fig hz, all_fig, ln, ii, h3, d1, d2, d4, numL', h4, h1, h2]
      | false => simp [F_number_of, ev_all_fig hz, all_fig, ln, h3, d1, d2, numL']
    · have d2 : ¬ N ≤ 4 := by omega
      simp [F_number_of, ln, d1, d2, numL', h2]
  · have d1 : ¬ 1 ≤ N := by omega
    simp [F_number_of, ln, d1, numL', h1]
theorem dats_chars : ∀ l : List Nat, datsOf (l.map fun c => Val.str ⟨#[c]⟩) = some (l.map fun c => PyData.str ⟨#[c]⟩)
  | [] => rfl
  | c :: l => by simp [datsOf, datOf, dats_chars l]
/-- a list of texts against [] -/
theorem eq_nil {ps : List Str} (h : ∀ p ∈ ps, PyData.strOk p = true) : eqVal cs (.lst (ps.map .str)) (.lst []) = some ps.isEmpty := by
  have hd : ∀ ps : List Str, datsOf (ps.map .str) = some (ps.map .str) := by
    intro ps
    induction ps with
    | nil => rfl
    | cons p ps ih => simp [datsOf, datOf, ih]
  have hs : ∀ ps : List Str, (∀ p ∈ ps, PyData.strOk p = true) → PyData.canLayAll0 (ps.map .str) = true ∧ PyData.depthAll (ps.map .str) = 0 := by
    intro ps
    induction ps with
    | nil => exact fun _ => ⟨rfl, rfl⟩
    | cons p ps ih =>
      intro h
      obtain ⟨i1, i2⟩ := ih fun q hq => h q (List.mem_cons_of_mem _ hq)
      simp [PyData.canLayAll0, PyData.canLay0, PyData.depthAll, PyData.depth, i1, i2, h p List.mem_cons_self]
  obtain ⟨h1, h2⟩ := hs ps h
  have hsh : SeqAt.shaped (.list (ps.map .str)) = true := by simp [SeqAt.shaped, PyData.canLay0, PyData.depth, h1, h2]
  show (match datAt cs (.lst (ps.map .str)), datAt cs (.lst []) with | some d, some e => if (SeqAt.shaped d && SeqAt.shaped e) = true then some (PyData.eqv d e) else none | _, _ => none) = _
  rw [show datAt cs (.lst (ps.map .str)) = some (.list (ps.map .str)) by simp [datAt, datOf, hd], show datAt cs (.lst []) = some (.list []) from rfl]
  dsimp only
  rw [if_pos (by rw [hsh]; rfl)]
  cases ps <;> simp [PyData.eqv, PyData.eqvAll]
theorem law_number_eq (h : Has tb "_law_number" F__law_number) (k : Nat) (l : List Nat) (hz : l.length ≤ sizeLine) (ho : ∀ c ∈ l, c < 1114112) : callAt tb (k + 1) "_law_number" [.str ⟨⟨l⟩⟩] cs = .ok (numL' l) cs := by
  rw [call_eq h rfl]
  obtain ⟨N, hN⟩ : ∃ N : Int, N = l.length := ⟨_, rfl⟩
  have ln : primV .len [.str ⟨⟨l⟩⟩] cs = .ok (.int N) cs := by rw [hN]; exact len_str hz
  have eo : ∀ σ τ, ev (callAt tb k) (.lcomp (.var 2) (.nm 2) .val [(.var 0)] [(.cmp .notIn (.var 2) (.const (.str "0123456789")))] [2]) [some (.str ⟨⟨l⟩⟩), σ, τ] cs = .ok (.lst (((l.filter fun c => !fig c).map fun c => (⟨#[c]⟩ : Str)).map .str)) cs := by
    intro σ τ
    rw [ev_lcomp]
    simp [it_str]
    rw [show signs ⟨⟨l⟩⟩ = l.map fun c => .str ⟨#[c]⟩ from rfl, lc_filter (fun c => Val.str ⟨#[c]⟩) (fun c => !fig c) chk_chars l _ (fun _ _ => rfl) hz]
    · simp
    · intro c hc
      cases q : fig c <;> simp [lcStep, wipeS, in_fig, q]
  have en := eq_nil (cs := cs) (ps := (l.filter fun c => !fig c).map fun c => (⟨#[c]⟩ : Str)) (fun p hp => by
    obtain ⟨c, hc, rfl⟩ := List.mem_map.mp hp
    simpa [PyData.strOk] using ho c (List.mem_filter.mp hc).1)
  have en2 : ((l.filter fun c => !fig c).map fun c => (⟨#[c]⟩ : Str)).isEmpty = l.all fig := by
    cases q : l.all fig with
    | true =>
      rw [List.all_eq_true] at q
      simp
      exact q
    | false =>
      rw [List.all_eq_false] at q
      obtain ⟨c, h1, h2⟩ := q
      simp
      exact ⟨c, h1, by simpa using h2⟩
  rw [en2] at en
  generalize List.map Val.str ((l.filter fun c => !fig c).map fun c => (⟨#[c]⟩ : Str)) = O at eo en
  have e0 : (decide ((⟨⟨l⟩⟩ : Str) = "")) = decide (l.length < 1) := by
    rw [show (Str.ofString "") = ⟨⟨[]⟩⟩ by decide +kernel]
    cases l <;> simp
  by_cases h1 : 1 ≤ l.length
  · obtain ⟨c, c1, i0⟩ := head_ix (cs := cs) h1 hz
    have d1 : ¬ l.length < 1 := by omega
    by_cases h2 : l.length ≤ 4
    · have d2 : ¬ 4 < N := by omega
      cases h3 : l.all fig with
      | true =>
        rw [h3] at en
        have ii := int_fig (cs := cs) h3 h1 h2
        by_cases h4 : 1 < l.length
        · have d4 : 1 < N := by omega
          by_cases h5 : c = 48
          · simp [F__law_number, eo, en, e0, ln, i0, one_eq, h5, ii, h3, d1, d2, d4, numL', h4, c1]
          · simp [F__law_number, eo, en, e0, ln, i0, one_eq, h5, ii, h3, d1, d2, d4, numL', h4, c1, h1, h2]
        · have d4 : ¬ 1 < N := by omega
          simp [F__law_number, eo, en, e0, ln, ii, h3, d1, d2, d4, numL', h4, h1, h2]
      | false =>
        rw [h3] at en
        simp [F__law_number, eo, en, e0, h3, d1, numL']
    · have d2 : 4 < N := by omega
      cases h3 : l.all fig <;> rw [h3] at en <;> simp [F__law_number, eo, en, e0, ln, d1, d2, numL', h2]
  · have d1 : l.length < 1 := by omega
    simp [F__law_number, eo, e0, d1, numL', h1]
theorem numL_cases (l : List Nat) : numL' l = .non ∨ ∃ n : Nat, numL' l = .int n ∧ n < 10000 := by
  unfold numL'
  split
  · rename_i h
    refine .inr ⟨_, rfl, ?_⟩
    have key : ∀ (l : List Nat) (a : Nat), l.all fig = true → l.foldl (fun acc c => acc * 10 + (c - 48)) a < (a + 1) * 10 ^ l.length := by
      intro l
      induction l with
      | nil => intro a _; simp
      | cons c l ih =>
        intro a h
        rw [List.all_cons, Bool.and_eq_true] at h
        have hc : 48 ≤ c ∧ c ≤ 57 := by simpa [fig] using h.1
        have := ih (a * 10 + (c - 48)) h.2
        rw [List.foldl_cons]
        refine Nat.lt_of_lt_of_le this ?_
        rw [List.length_cons, Nat.pow_succ, Nat.mul_comm (10 ^ l.length) 10, ← Nat.mul_assoc]
        exact Nat.mul_le_mul_right _ (by omega)
    have := key l 0 h.2.2.1
    have h4 : 10 ^ l.length ≤ 10 ^ 4 := Nat.pow_le_pow_right (by decide) h.2.1
    unfold NumText.digitsVal
    omega
  · exact .inl rfl
def signL (l : List Nat) : Val := if l.head? = some 45 then (match numL' (l.tail) with
  | .int n => if n = 0 then .non else .int (-n)
  | _ => .non) else numL' l
theorem starts_minus {l : List Nat} : Txt.startswith ⟨⟨l⟩⟩ "-" = decide (l.head? = some 45) := by
  unfold Txt.startswith Builtin.Str.subAt
  rw [show (Str.ofString "-") = ⟨#[45]⟩ by decide +kernel]
  cases l with
  | nil => rfl
  | cons c l => by_cases e : c = 45 <;> simp [Str.length, e]
theorem cut_from1 {l : List Nat} : L2.cutS ⟨⟨l⟩⟩ (some 1) none = ⟨⟨l.tail⟩⟩ := by
  unfold L2.cutS HT.sIx
  cases l with
  | nil => rfl
  | cons c l => simp [Str.length]
theorem cut_to1 {l : List Nat} : L2.cutS ⟨⟨l⟩⟩ none (some 1) = ⟨⟨l.take 1⟩⟩ := by
  unfold L2.cutS HT.sIx
  cases l with
  | nil => rfl
  | cons c l => simp [Str.length]
theorem slice_from1 {l : List Nat} (hz : l.length ≤ sizeLine) : sliceV (.str ⟨⟨l⟩⟩) (some 1) none cs = .ok (.str ⟨⟨l.tail⟩⟩) cs := by
  show (if l.length ≤ sizeLine then _ else _) = _
  rw [if_pos hz, cut_from1]
theorem slice_to1 {l : List Nat} (hz : l.length ≤ sizeLine) : sliceV (.str ⟨⟨l⟩⟩) none (some 1) cs = .ok (.str ⟨⟨l.take 1⟩⟩) cs := by
  show (if l.length ≤ sizeLine then _ else _) = _
  rw [if_pos hz, cut_to1]
@[simp] theorem optI_int {i : Int} : optI true (.int i) = some (some i) := rfl
@[simp] theorem optI_no {v : Val} : optI false v = some none := rfl
@[simp] theorem sm_starts {x y : Str} : smethV .startswith x [.str y] cs = .ok (.bl (Txt.startswith x y)) cs := rfl
theorem signed_of_eq (h1 : Has tb "number_of" F_number_of) (h : Has tb "signed_of" F_signed_of) (k : Nat) (l : List Nat) (hz : l.length ≤ sizeLine) : callAt tb (k + 2) "signed_of" [.str ⟨⟨l⟩⟩] cs = .ok (signL l) cs := by
  rw [call_eq h rfl]
  have n1 := number_of_eq (cs := cs) h1 k l hz
  have n2 := number_of_eq (cs := cs) h1 k l.tail (by simp at hz ⊢; omega)
  by_cases hm : l.head? = some 45
  · rcases numL_cases (l.tail) with e | ⟨n, e, _⟩
    · simp [F_signed_of, starts_minus, hm, slice_from1 hz, n2, e, signL]
    · by_cases hn : n = 0 <;> simp [F_signed_of, starts_minus, hm, slice_from1 hz, n2, e, signL, hn]
  · rcases numL_cases l with e | ⟨n, e, _⟩ <;> simp [F_signed_of, starts_minus, hm, n1, e, signL]
theorem common_eq (h : Has tb "common_part" F_common_part) (k : Nat) {a b : Int} (h1 : b.natAbs < 10 ^ 1000) : callAt tb (k + 1) "common_part" [.int a, .int b] cs = .ok (.int (Nat.gcd a.natAbs b.natAbs : Nat)) cs := by
  suffices w : Wp (callAt tb (k + 1) "common_part" [.int a, .int b] cs) fun v cs' => v = .int (Nat.gcd a.natAbs b.natAbs : Nat) ∧ cs' = cs by
    obtain ⟨v, cs', e, rfl, rfl⟩ := w.ex
    exact e
  refine call_wp h rfl ?_
  have ha : (if a < 0 then -a else a) = (a.natAbs : Int) := by split <;> omega
  have hb : (if b < 0 then -b else b) = (b.natAbs : Int) := by split <;> omega
  simp [F_common_part]
  refine gcd_loop (fun x y => ?_) a.natAbs b.natAbs ha hb h1 ?_
  · simp
  · simp
theorem is_fraction_eq (h1 : Has tb "is_whole" F_is_whole) (h2 : Has tb "common_part" F_common_part) (h : Has tb "is_fraction" F_is_fraction) (k : Nat) {a b : Int} (hb : b.natAbs < 10 ^ 1000) : callAt tb (k + 2) "is_fraction" [.tup [.int a, .int b], .non] cs = .ok (.bl (decide (1 ≤ b ∧ Nat.gcd a.natAbs b.natAbs = 1))) cs := by
  rw [call_eq h rfl]
  have w := fun i => is_whole_eq (cs := cs) h1 k i
  have c := common_eq (cs := cs) h2 k (a := a) hb
  by_cases g1 : b < 1
  · have g1' : ¬ 1 ≤ b := by omega
    simp [F_is_fraction, w, g1, g1']
  · have g1' : 1 ≤ b := by omega
    by_cases g2 : Nat.gcd a.natAbs b.natAbs = 1
    · simp [F_is_fraction, w, g1, g1', c, g2]
    · have g3 : ¬ ((Nat.gcd a.natAbs b.natAbs : Nat) : Int) = 1 := by omega
      simp [F_is_fraction, w, g1, g1', c, g2, g3]
/-! ### fractions as texts -/
def parts (x : Str) : List (List Nat) := (Txt.split x "/").map (·.cps.toList)
theorem parts_map (x : Str) : (Txt.split x "/").map Val.str = (parts x).map fun q => .str ⟨⟨q⟩⟩ := by
  unfold parts
  rw [List.map_map]
  rfl
theorem split_eq {x : Str} (hz : x.length + 2 ≤ sizeLine) : smethV .split x [.str "/"] cs = .ok (.lst ((parts x).map fun q => .str ⟨⟨q⟩⟩)) cs := by
  show (if _ then _ else _) = _
  rw [if_pos ⟨by decide, hz⟩, parts_map]
theorem parts_ne (x : Str) : parts x ≠ [] := fun e => by
  have := PyProof.Rows.split_pos x "/"
  unfold parts at e
  rw [List.map_eq_nil_iff.mp e] at this
  simp at this
theorem parts_short {x : Str} {q : List Nat} (h : q ∈ parts x) : q.length ≤ x.length := by
  obtain ⟨p, hp, rfl⟩ := List.mem_map.mp h
  have := PyProof.Rows.part_short hp
  simpa [Str.length] using this
theorem mem_joinL {c : Nat} {y : List Nat} : ∀ {ls : List (List Nat)} {q : List Nat}, q ∈ ls → c ∈ q → c ∈ TL.joinL y ls
  | [q'], q, h, hc => by
    simp at h
    subst h
    simpa [TL.joinL] using hc
  | q' :: r :: ls, q, h, hc => by
    rcases List.mem_cons.mp h with rfl | h
    · simp [TL.joinL, hc]
    · have := mem_joinL (y := y) h hc
      simp [TL.joinL, this]
theorem parts_sub {x : Str} {q : List Nat} (h : q ∈ parts x) {c : Nat} (hc : c ∈ q) : c ∈ x.cps.toList := by
  have e := congrArg TL.tl (StrLaws.join_split x "/")
  rw [TL.tl_join] at e
  have := mem_joinL (y := TL.tl "/") (ls := (Txt.split x "/").map TL.tl) (q := q) h hc
  rw [e] at this
  exact this
/-- what read_fraction reads -/
def readP : List (List Nat) → Val
  | [p] => (match signL p with
    | .int t => .tup [.int t, .int 1]
    | _ => .non)
  | [p, q] => (match numL' q with
    | .int b => if b < 2 then .non else (match signL p with
      | .int t => if Nat.gcd t.natAbs b.natAbs = 1 then .tup [.int t, .int b] else .non
      | _ => .non)
    | _ => .non)
  | _ => .non
theorem signL_cases (l : List Nat) : signL l = .non ∨ ∃ t : Int, signL l = .int t ∧ t.natAbs < 10000 := by
  unfold signL
  split
  · rcases numL_cases l.tail with e | ⟨n, e, h⟩
    · rw [e]; exact .inl rfl
    · rw [e]
      dsimp only
      split
      · exact .inl rfl
      · exact .inr ⟨_, rfl, by omega⟩
  · rcases numL_cases l with e | ⟨n, e, h⟩
    · exact .inl e
    · exact .inr ⟨n, e, by omega⟩
theorem readP_cases (ps : List (List Nat)) : readP ps = .non ∨ ∃ t b : Int, readP ps = .tup [.int t, .int b] ∧ t.natAbs < 10000 ∧ 0 < b ∧ b < 10000 := by
  unfold readP
  split
  · rename_i p
    rcases signL_cases p with e | ⟨t, e, ht⟩
    · rw [e]; exact .inl rfl
    · rw [e]; exact .inr ⟨t, 1, rfl, ht, by decide, by decide⟩
  · rename_i p q
    rcases numL_cases q with e | ⟨b, e, hb⟩
    · rw [e]; exact .inl rfl
    · rw [e]
      dsimp only
      split
      · exact .inl rfl
      · rcases signL_cases p with e2 | ⟨t, e2, ht⟩
        · rw [e2]; exact .inl rfl
        · rw [e2]
          dsimp only
          split
          · exact .inr ⟨t, b, rfl, ht, by omega, by omega⟩
          · exact .inl rfl
  · exact .inl rfl
theorem leave_read {ps : List (List Nat)} : leave cs.length (.ok (.rt (readP ps)) cs) = .ok (readP ps) cs := by
  rcases readP_cases ps with e | ⟨t, b, e, _⟩ <;> rw [e] <;> simp
theorem rest_nil {x : Str} {ps : List (List Nat)} (h : ∀ q ∈ ps, ∀ c ∈ q, c < 1114112) : eqVal cs (.lst (ps.map fun q => .str ⟨⟨q⟩⟩)) (.lst []) = some ps.isEmpty := by
  have := eq_nil (cs := cs) (ps := ps.map fun q => (⟨⟨q⟩⟩ : Str)) (fun p hp => by
    obtain ⟨q, hq, rfl⟩ := List.mem_map.mp hp
    simpa [PyData.strOk] using h q hq)
  rw [List.map_map, List.isEmpty_map] at this
  exact this
def WOk (x : Str) : Prop := x.length + 2 ≤ sizeLine ∧ ∀ c ∈ x.cps.toList, c < 1114112
@[simp] theorem seq_lst {xs : List Val} : seqOf cs (.lst xs) = some xs := rfl
theorem eq_tup2 {a b c d : Int} : eqVal cs (.tup [.int a, .int b]) (.tup [.int c, .int d]) = some (decide (a = c ∧ b = d)) := by
  show some (PyData.eqv (.tuple [.int a, .int b]) (.tuple [.int c, .int d])) = _
  by_cases h1 : a = c <;> by_cases h2 : b = d <;> simp [PyData.eqv, PyData.eqvAll, h1, h2]
@[simp] theorem star_head {α : Type} {c : List α → α} {x : α} {xs : List α} : starL 2 1 c (x :: xs) = [x, c xs] := by
  simp [starL]
theorem read_fraction_eq (h1 : Has tb "number_of" F_number_of) (h2 : Has tb "signed_of" F_signed_of) (h3 : Has tb "is_whole" F_is_whole) (h4 : Has tb "common_part" F_common_part) (h5 : Has tb "is_fraction" F_is_fraction) (h : Has tb "read_fraction" F_read_fraction)
    (k : Nat) (x : Str) (hx : WOk x) : callAt tb (k + 3) "read_fraction" [.str x] cs = .ok (readP (parts x)) cs := by
  rw [call_eq h rfl]
  have sp := split_eq (cs := cs) hx.1
  have hn := parts_ne x
  have hs := fun q (hq : q ∈ parts x) => parts_short hq
  have hu := fun q (hq : q ∈ parts x) c (hc : c ∈ q) => hx.2 c (parts_sub hq hc)
  generalize parts x = qs at sp hn hs hu ⊢
  have hz := hx.1
  cases qs with
  | nil => exact absurd rfl hn
  | cons p qs =>
    have s1 := signed_of_eq (cs := cs) h1 h2 k p (by have := hs p List.mem_cons_self; omega)
    have en := rest_nil (cs := cs) (x := x) (ps := qs) (fun q hq c hc => hu q (List.mem_cons_of_mem _ hq) c hc)
    have fr := fun a b hb => is_fraction_eq (cs := cs) h3 h4 h5 k (a := a) (b := b) hb
    cases qs with
    | nil =>
      rcases signL_cases p with e | ⟨t, e, ht⟩
      · rw [e] at s1
        simp at en
        simp [F_read_fraction, sp, s1, en, readP, e]
      · rw [e] at s1
        have f1 := fr t 1 (by decide +kernel)
        simp at en
        simp [F_read_fraction, sp, s1, en, readP, e, f1]
    | cons q qs =>
      have n1 := number_of_eq (cs := cs) h1 (k + 1) q (by have := hs q (List.mem_cons_of_mem _ List.mem_cons_self); omega)
      simp at en
      cases qs with
      | nil =>
        simp at en
        rcases numL_cases q with e2 | ⟨b, e2, hb⟩
        · rw [e2] at n1
          rcases signL_cases p with e | ⟨t, e, ht⟩ <;> rw [e] at s1 <;> simp [F_read_fraction, sp, s1, en, readP, e, n1, e2]
        · rw [e2] at n1
          by_cases hb2 : (b : Int) < 2
          · rcases signL_cases p with e | ⟨t, e, ht⟩ <;> rw [e] at s1 <;> simp [F_read_fraction, sp, s1, en, readP, e, n1, e2, hb2]
          · rcases signL_cases p with e | ⟨t, e, ht⟩
            · rw [e] at s1
              simp [F_read_fraction, sp, s1, en, readP, e, n1, e2, hb2]
            · rw [e] at s1
              have f1 := fr t b (by have : b < 10 ^ 1000 := Nat.lt_trans hb (by decide +kernel); simpa using this)
              have hb1 : (1 : Int) ≤ b := by omega
              by_cases g : Nat.gcd t.natAbs b = 1 <;> simp [F_read_fraction, sp, s1, en, readP, e, n1, e2, hb2, f1, g, hb1]
      | cons r qs =>
        have hl : ¬ ((qs.length : Int) + 1 + 1 = 1) := by omega
        rcases signL_cases p with e | ⟨t, e, ht⟩ <;> rw [e] at s1 <;> simp at en <;> simp [F_read_fraction, sp, s1, en, readP, e, hl]
theorem minus_eq {l : List Nat} : decide ((⟨⟨l.take 1⟩⟩ : Str) = "-") = decide (l.head? = some 45) := by
  rw [show (Str.ofString "-") = ⟨⟨[45]⟩⟩ by decide +kernel]
  cases l with
  | nil => simp
  | cons c l => by_cases e : c = 45 <;> simp [e]
theorem div_self_iff {b : Int} {g : Nat} (hb : 0 < b) (hg : 0 < g) : b / (g : Int) = b ↔ g = 1 := by
  constructor
  · intro e
    by_cases h : g = 1
    · exact h
    · have : b / (g : Int) < b := Int.ediv_lt_of_lt_mul (by omega) (by
        have : b * 2 ≤ b * g := Int.mul_le_mul_of_nonneg_left (by omega) (by omega)
        omega)
      omega
  · rintro rfl
    simp
theorem low_ne {t b : Int} (hb : 0 < b) : eqVal cs (.tup [.int (t / (Nat.gcd b.natAbs t.natAbs : Nat)), .int (b / (Nat.gcd b.natAbs t.natAbs : Nat))]) (.tup [.int t, .int b]) = some (decide (Nat.gcd t.natAbs b.natAbs = 1)) := by
  rw [eq_tup2]
  congr 1
  apply decide_eq_decide.mpr
  rw [Nat.gcd_comm t.natAbs]
  have g0 : 0 < Nat.gcd b.natAbs t.natAbs := Nat.gcd_pos_of_pos_left _ (by omega)
  rw [div_self_iff hb g0]
  constructor
  · exact fun h => h.2
  · intro h
    rw [h]
    simp
theorem exs_app {cl : Cl} {b : List S} : ∀ {a : List S} {σ : Slots} {cs : Cells}, exs cl (a ++ b) σ cs = (exs cl a σ cs).bind fun o cs => nxt o cs fun σ cs => exs cl b σ cs
  | [], σ, cs => rfl
  | s :: a, σ, cs => by
    rw [List.cons_append, exs_cons, exs_cons]
    cases ex cl s σ cs with
    | ok o cs1 =>
      simp only [R.bind_ok]
      cases o with
      | nx σ1 => exact exs_app
      | _ => rfl
    | _ => rfl
theorem law_due_eq (h1 : Has tb "_law_number" F__law_number) (h2 : Has tb "_law_lowest" F__law_lowest) (h : Has tb "_law_due" F__law_due) (k : Nat) (x : Str) (hx : WOk x) : callAt tb (k + 2) "_law_due" [.str x] cs = .ok (readP (parts x)) cs := by
  rw [call_eq h rfl]
  have sp := split_eq (cs := cs) hx.1
  have hn := parts_ne x
  have hs := fun q (hq : q ∈ parts x) => parts_short hq
  have hu := fun q (hq : q ∈ parts x) c (hc : c ∈ q) => hx.2 c (parts_sub hq hc)
  generalize parts x = qs at sp hn hs hu ⊢
  have hz := hx.1
  cases qs with
  | nil => exact absurd rfl hn
  | cons p qs =>
    have pz : p.length ≤ sizeLine := by have := hs p List.mem_cons_self; omega
    have n1 := law_number_eq (cs := cs) h1 k p pz (hu p List.mem_cons_self)
    have n2 := law_number_eq (cs := cs) h1 k p.tail (by simp; simp at pz; omega) (fun c hc => hu p List.mem_cons_self c (List.mem_of_mem_tail hc))
    have lw := fun (t b : Int) (hb : 0 < b) (h1 : t.natAbs < 10 ^ 200) (h2 : b < 10 ^ 200) => lowest_eq (cs := cs) (tb := tb) (by assumption) k (a := t) (b := b) hb h1 h2
    have rn : ∀ (qs : List (List Nat)), signL p = .non → readP (p :: qs) = .non := by
      intro qs es
      cases qs with
      | nil => simp [readP, es]
      | cons q qs =>
        cases qs with
        | nil => rcases numL_cases q with e | ⟨b, e, _⟩ <;> simp [readP, es, e]
        | cons r qs => rfl
    have fin : ∀ T : Int, T.natAbs < 10000 → signL p = .int T → qs.length ≤ 1 → exs (callAt tb (k + 1)) (F__law_due.body.drop 5) [some (.str x), some (.lst ((p :: qs).map fun q => .str ⟨⟨q⟩⟩)), some (.int T), none] cs = .ok (.rt (readP (p :: qs))) cs := by
      intro T hT es hq
      cases qs with
      | nil =>
        have l1 := lw T 1 (by decide) (by omega) (by decide)
        have l2 := low_ne (cs := cs) (t := T) (b := 1) (by decide)
        simp at l1 l2
        simp [F__law_due, l1, l2, readP, es]
      | cons q qs =>
        cases qs with
        | cons r qs => simp at hq
        | nil =>
          have n3 := law_number_eq (cs := cs) h1 k q (by have := hs q (List.mem_cons_of_mem _ List.mem_cons_self); omega) (hu q (List.mem_cons_of_mem _ List.mem_cons_self))
          rcases numL_cases q with e2 | ⟨b, e2, hb⟩
          · rw [e2] at n3
            simp [F__law_due, n3, e2, readP]
          · rw [e2] at n3
            by_cases hb2 : (b : Int) < 2
            · simp [F__law_due, n3, e2, readP, hb2]
            · have l1 := lw T b (by omega) (by omega) (by omega)
              have l2 := low_ne (cs := cs) (t := T) (b := b) (by omega)
              simp only [Int.natAbs_natCast] at l1 l2
              by_cases g : Nat.gcd T.natAbs b = 1
              · simp [F__law_due, n3, e2, readP, hb2, l1, l2, es, g]
              · simp [F__law_due, n3, e2, readP, hb2, l1, l2, es, g]
    have r3 : ¬ qs.length ≤ 1 → readP (p :: qs) = .non := by
      intro hq
      cases qs with
      | nil => simp at hq
      | cons q qs =>
        cases qs with
        | nil => simp at hq
        | cons r qs => rfl
    rw [show F__law_due.body = F__law_due.body.take 5 ++ F__law_due.body.drop 5 from rfl, exs_app]
    have lq : ((p :: qs).map fun q => Val.str ⟨⟨q⟩⟩).length = qs.length + 1 := by simp
    have i0 : ∀ {cs : Cells}, ixV (.lst ((p :: qs).map fun q => Val.str ⟨⟨q⟩⟩)) (.int 0) cs = .ok (.str ⟨⟨p⟩⟩) cs := by simp
    generalize ((p :: qs).map fun q => Val.str ⟨⟨q⟩⟩) = L at sp fin lq i0
    have ll : ∀ {cs : Cells}, primV .len [.lst L] cs = .ok (.int (qs.length + 1)) cs := by intro cs; rw [len_lst, lq]; simp
    by_cases hm : p.head? = some 45
    · rcases numL_cases p.tail with e | ⟨t, e, ht⟩
      · rw [e] at n2
        have es : signL p = .non := by simp [signL, hm, e]
        rw [rn qs es]
        simp [F__law_due, sp, i0, slice_to1 pz, slice_from1 pz, minus_eq, hm, n2]
      · rw [e] at n2
        by_cases hq : qs.length ≤ 1
        · have hl : ¬ 2 < (qs.length : Int) + 1 := by omega
          by_cases h0 : t = 0
          · have es : signL p = .non := by simp [signL, hm, e, h0]
            rw [rn qs es]
            simp [F__law_due, sp, i0, slice_to1 pz, slice_from1 pz, minus_eq, hm, n2, ll, hl, h0]
          · have es : signL p = .int (-(t : Int)) := by simp [signL, hm, e, h0]
            have f1 := fin _ (by omega) es hq
            have st : exs (callAt tb (k + 1)) (F__law_due.body.take 5) ([Val.str x].map some ++ List.replicate (F__law_due.slots - F__law_due.n) none) cs = .ok (.nx [some (.str x), some (.lst L), some (.int (-(t : Int))), none]) cs := by
              simp [F__law_due, sp, i0, slice_to1 pz, slice_from1 pz, minus_eq, hm, n2, ll, hl, h0]
            rw [st]
            simp only [R.bind_ok, nxt_nx, f1]
            exact leave_read
        · have hl : 2 < (qs.length : Int) + 1 := by omega
          rw [r3 hq]
          simp [F__law_due, sp, i0, slice_to1 pz, slice_from1 pz, minus_eq, hm, n2, ll, hl]
    · rcases numL_cases p with e | ⟨t, e, ht⟩
      · rw [e] at n1
        have es : signL p = .non := by simp [signL, hm, e]
        rw [rn qs es]
        simp [F__law_due, sp, i0, slice_to1 pz, slice_from1 pz, minus_eq, hm, n1]
      · rw [e] at n1
        by_cases hq : qs.length ≤ 1
        · have hl : ¬ 2 < (qs.length : Int) + 1 := by omega
          have es : signL p = .int (t : Int) := by simp [signL, hm, e]
          have f1 := fin _ (by omega) es hq
          have st : exs (callAt tb (k + 1)) (F__law_due.body.take 5) ([Val.str x].map some ++ List.replicate (F__law_due.slots - F__law_due.n) none) cs = .ok (.nx [some (.str x), some (.lst L), some (.int (t : Int)), none]) cs := by
            simp [F__law_due, sp, i0, slice_to1 pz, slice_from1 pz, minus_eq, hm, n1, ll, hl]
          rw [st]
          simp only [R.bind_ok, nxt_nx, f1]
          exact leave_read
        · have hl : 2 < (qs.length : Int) + 1 := by omega
          rw [r3 hq]
          simp [F__law_due, sp, i0, slice_to1 pz, slice_from1 pz, minus_eq, hm, n1, ll, hl]
/-- str(a), "a/b" -/
def fracT (a b : Int) : Str := if b = 1 then Str.ofString (toString a) else Str.ofString (toString a) ++ "/" ++ Str.ofString (toString b)
theorem log_small {a : Int} (h : a.natAbs < 10 ^ 31) : a.natAbs.log2 < 1920 := by
  have := log2_lt (i := a) (by omega) (by omega)
  omega
theorem num_len {a : Int} (h : a.natAbs < 10 ^ 31) : (Str.ofString a.repr).length ≤ 1921 := PyProof.Rows.int_text_len_1921 (i := a) (log_small h)
theorem emp_app (x : Str) : Str.empty ++ x = x := by
  show (⟨#[] ++ x.cps⟩ : Str) = x
  simp
theorem frac_log {a b : Int} (hf : Frac a b) : a.natAbs.log2 < 1920 ∧ b.natAbs.log2 < 1920 ∧ (Str.ofString a.repr).length ≤ 1921 ∧ (Str.ofString b.repr).length ≤ 1921 := by
  have h1 := hf.1
  have h2 := hf.2.1
  exact ⟨log_small hf.2.2.1, log_small (by omega), num_len hf.2.2.1, num_len (by omega)⟩
theorem slash_len : (Str.ofString "/").length = 1 := by decide +kernel
/-- the text of a fraction, as the laws write it: top and bottom by A, B -/
theorem text_ev {cl : Cl} {σ : Slots} {a b : Int} {A B : E} (hA : ∀ {cs}, ev cl A σ cs = .ok (.int a) cs) (hB : ∀ {cs}, ev cl B σ cs = .ok (.int b) cs) (hf : Frac a b) :
    ev cl (.ite (.cmp .eq B (.const (.int 1))) (.prim .str [A]) (.fstr [.fmt A, .const (.str "/"), .fmt B])) σ cs = .ok (.str (fracT a b)) cs := by
  obtain ⟨l1, l2, n1, n2⟩ := frac_log hf
  by_cases hb : b = 1
  · simp [hA, hB, hb, primV, l1, fracT]
  · have c1 : (Str.ofString a.repr ++ Str.ofString "/").length ≤ 16777216 := by rw [Str.length_append, slash_len]; omega
    have c2 : (Str.ofString a.repr ++ Str.ofString "/" ++ Str.ofString b.repr).length ≤ 16777216 := by rw [Str.length_append, Str.length_append, slash_len]; omega
    have c0 : (Str.ofString a.repr).length ≤ 16777216 := by omega
    simp [hA, hB, hb, l1, l2, fracT, emp_app, c0, c1, c2]
theorem fraction_text_eq (h : Has tb "fraction_text" F_fraction_text) (k : Nat) {a b : Int} (hf : Frac a b) : callAt tb (k + 1) "fraction_text" [.tup [.int a, .int b]] cs = .ok (.str (fracT a b)) cs := by
  rw [call_eq h rfl]
  have t := text_ev (cs := cs) (cl := callAt tb k) (σ := [some (.tup [.int a, .int b]), some (.int a), some (.int b)]) (A := .var 1) (B := .var 2) (by simp) (by simp) hf
  simp [F_fraction_text, -ev_ite, t]
end
end Ps

set_option maxHeartbeats 1000000
/-! PsRat: fractions as rational numbers. -/
namespace Ps
open PySem L2
def F_lowest : Fn := ⟨2, 3,
  [(.asg (.nm 2) (.call "common_part" [(.var 0), (.var 1)] [.inl 0, .inl 1])),
   (.ret (.ite (.cmp .gt (.var 1) (.const (.int (0)))) (.tup [(.bin .fdiv (.var 0) (.var 2)), (.bin .fdiv (.var 1) (.var 2))]) (.tup [(.bin .sub (.const (.int (0))) (.bin .fdiv (.var 0) (.var 2))), (.bin .sub (.const (.int (0))) (.bin .fdiv (.var 1) (.var 2)))])))]⟩
def F_fraction : Fn := ⟨2, 2,
  [(.ite (.or_ (.not_ (.call "is_whole" [(.var 0)] [.inl 0])) (.or_ (.not_ (.call "is_whole" [(.var 1)] [.inl 0])) (.cmp .eq (.var 1) (.const (.int (0)))))) [(.rais "OutOfPlace" [] [] [])] []),
   (.ret (.call "lowest" [(.var 0), (.var 1)] [.inl 0, .inl 1]))]⟩
def F_plus : Fn := ⟨2, 2,
  [(.ret (.call "lowest" [(.bin .add (.bin .mul (.ix (.var 0) (.const (.int (0)))) (.ix (.var 1) (.const (.int (1))))) (.bin .mul (.ix (.var 1) (.const (.int (0)))) (.ix (.var 0) (.const (.int (1)))))), (.bin .mul (.ix (.var 0) (.const (.int (1)))) (.ix (.var 1) (.const (.int (1)))))] [.inl 0, .inl 1]))]⟩
def F_less : Fn := ⟨2, 2,
  [(.ret (.call "lowest" [(.bin .sub (.bin .mul (.ix (.var 0) (.const (.int (0)))) (.ix (.var 1) (.const (.int (1))))) (.bin .mul (.ix (.var 1) (.const (.int (0)))) (.ix (.var 0) (.const (.int (1)))))), (.bin .mul (.ix (.var 0) (.const (.int (1)))) (.ix (.var 1) (.const (.int (1)))))] [.inl 0, .inl 1]))]⟩
def F_times : Fn := ⟨2, 2,
  [(.ret (.call "lowest" [(.bin .mul (.ix (.var 0) (.const (.int (0)))) (.ix (.var 1) (.const (.int (0))))), (.bin .mul (.ix (.var 0) (.const (.int (1)))) (.ix (.var 1) (.const (.int (1)))))] [.inl 0, .inl 1]))]⟩
def F_over : Fn := ⟨2, 2,
  [(.ite (.cmp .eq (.ix (.var 1) (.const (.int (0)))) (.const (.int (0)))) [(.rais "OutOfPlace" [] [] [])] []),
   (.ret (.call "lowest" [(.bin .mul (.ix (.var 0) (.const (.int (0)))) (.ix (.var 1) (.const (.int (1))))), (.bin .mul (.ix (.var 0) (.const (.int (1)))) (.ix (.var 1) (.const (.int (0)))))] [.inl 0, .inl 1]))]⟩
def F_mean : Fn := ⟨2, 2,
  [(.ret (.call "lowest" [(.bin .add (.bin .mul (.ix (.var 0) (.const (.int (0)))) (.ix (.var 1) (.const (.int (1))))) (.bin .mul (.ix (.var 1) (.const (.int (0)))) (.ix (.var 0) (.const (.int (1)))))), (.bin .mul (.bin .mul (.const (.int (2))) (.ix (.var 0) (.const (.int (1))))) (.ix (.var 1) (.const (.int (1)))))] [.inl 0, .inl 1]))]⟩
def F_compared : Fn := ⟨2, 4,
  [(.par [2, 3] [(.bin .mul (.ix (.var 0) (.const (.int (0)))) (.ix (.var 1) (.const (.int (1))))), (.bin .mul (.ix (.var 1) (.const (.int (0)))) (.ix (.var 0) (.const (.int (1)))))]),
   (.ret (.bin .sub (.prim .int [(.cmp .gt (.var 2) (.var 3))]) (.prim .int [(.cmp .lt (.var 2) (.var 3))])))]⟩
def F_is_under : Fn := ⟨2, 2,
  [(.ret (.cmp .lt (.call "compared" [(.var 0), (.var 1)] [.inl 0, .inl 1]) (.const (.int (0)))))]⟩
def F_floor_of : Fn := ⟨1, 3,
  [(.asg (.tp [(.nm 1), (.nm 2)]) (.var 0)),
   (.ret (.bin .fdiv (.var 1) (.var 2)))]⟩
def F_total : Fn := ⟨1, 3,
  [(.asg (.nm 1) (.const (.tup [(.int (0)), (.int (1))]))),
   (.for_ (.nm 2) .val [(.var 0)] [(.asg (.nm 1) (.call "plus" [(.var 1), (.var 2)] [.inl 0, .inl 1]))]),
   (.ret (.var 1))]⟩
def F_rising : Fn := ⟨1, 5,
  [(.asg (.nm 1) (.own (.lst []))),
   (.for_ (.nm 2) .val [(.var 0)] [(.asg (.nm 3) (.prim .len [(.lcomp (.var 4) (.nm 4) .val [(.var 1)] [(.cmp .lt (.call "compared" [(.var 4), (.var 2)] [.inl 0, .inl 1]) (.const (.int (1))))] [4])])), (.expr (.lmeth .insert (.var 1) [(.var 3), (.var 2)]))]),
   (.ret (.var 1))]⟩
def F_in_order : Fn := ⟨2, 5,
  [(.asg (.nm 2) (.call "rising" [(.var 0)] [.inl 0])),
   (.ret (.prim .tuple [(.lcomp (.var 4) (.tp [(.nm 3), (.nm 4)]) .enum [(.var 2)] [(.or_ (.var 1) (.or_ (.cmp .eq (.var 3) (.const (.int (0)))) (.cmp .ne (.ix (.var 2) (.bin .sub (.var 3) (.const (.int (1))))) (.var 4))))] [3, 4])]))]⟩
/-- a fraction -/
@[irreducible] def fv (q : Rat) : Val := .tup [.int q.num, .int q.den]
theorem fv_def (q : Rat) : fv q = .tup [.int q.num, .int q.den] := by unfold fv; rfl
theorem fv_inj {p q : Rat} : fv p = fv q ↔ p = q := by
  constructor
  · intro h
    rw [fv_def, fv_def] at h
    injection h with h
    injection h with h1 h2
    injection h1 with h1
    injection h2 with h2
    injection h2 with h2
    exact Rat.ext h1 (by omega)
  · intro h; rw [h]
/-- its size -/
def Sz (n : Nat) (q : Rat) : Prop := q.num.natAbs < 2 ^ n ∧ q.den < 2 ^ n
theorem Sz.mono {n m : Nat} {q : Rat} (h : Sz n q) (l : n ≤ m) : Sz m q := by
  have := Nat.pow_le_pow_right (show 0 < 2 by decide) l
  exact ⟨by have := h.1; omega, by have := h.2; omega⟩
theorem div_sz {a b : Int} {n : Nat} (ha : a.natAbs < 2 ^ n) (hb : b.natAbs < 2 ^ n) (b0 : b ≠ 0) : Sz n (Rat.divInt a b) := by
  have h1 := Rat.num_divInt a b
  have h2 := Rat.den_divInt a b
  have g0 : 0 < b.gcd a := Int.gcd_pos_of_ne_zero_left _ b0
  refine ⟨?_, ?_⟩
  · rw [h1]
    have e : (b.sign * a / (b.gcd a : Int)).natAbs ≤ (b.sign * a).natAbs := Int.natAbs_ediv_le_natAbs _ _
    have e2 : (b.sign * a).natAbs = a.natAbs := by
      rw [Int.natAbs_mul, Int.natAbs_sign_of_ne_zero b0, Nat.one_mul]
    omega
  · rw [h2, if_neg b0]
    have := Nat.div_le_self b.natAbs (b.gcd a)
    omega
section
variable {tb : List (Str × Fn)} {cs : Cells}
theorem ix_fv0 {q : Rat} : ixV (fv q) (.int 0) cs = .ok (.int q.num) cs := by rw [fv_def]; simp
theorem ix_fv1 {q : Rat} : ixV (fv q) (.int 1) cs = .ok (.int q.den) cs := by rw [fv_def]; simp
theorem nr_fv {q : Rat} : noRef (fv q) = true := by rw [fv_def]; rfl
theorem lv_fv {q : Rat} {L : Nat} : leave L (.ok (.rt (fv q)) cs) = .ok (fv q) (cs.take L) := by rw [fv_def]; rfl
theorem eq_fv {p q : Rat} : eqVal cs (fv p) (fv q) = some (decide (p = q)) := by
  rw [fv_def, fv_def, eq_tup2]
  congr 1
  apply decide_eq_decide.mpr
  constructor
  · intro h; exact Rat.ext h.1 (by omega)
  · intro h; rw [h]; exact ⟨rfl, rfl⟩
theorem fv_0 : fv 0 = .tup [.int 0, .int 1] := by rw [fv_def]; rfl
theorem fv_1 : fv 1 = .tup [.int 1, .int 1] := by rw [fv_def]; rfl
theorem fv_2 : fv 2 = .tup [.int 2, .int 1] := by rw [fv_def]; rfl
theorem log_lt {i n : Nat} (h : i < 2 ^ n) (hn : 0 < n) : i.log2 < n := by
  by_cases z : i = 0
  · subst z; simpa using hn
  · exact (Nat.log2_lt z).mpr h
theorem b_mulZ {i j : Int} {n m : Nat} (h1 : i.natAbs < 2 ^ n) (h2 : j.natAbs < 2 ^ m) (h : n + m ≤ 1000) : binop .mul (.int i) (.int j) cs = .ok (.int (i * j)) cs := by
  have l1 : i.natAbs.log2 < n + 1 := log_lt (Nat.lt_of_lt_of_le h1 (Nat.pow_le_pow_right (by decide) (by omega))) (by omega)
  have l2 : j.natAbs.log2 < m + 1 := log_lt (Nat.lt_of_lt_of_le h2 (Nat.pow_le_pow_right (by decide) (by omega))) (by omega)
  exact b_mul (by omega)
theorem b_fdivZ {i : Int} {g : Nat} (h0 : 0 < g) (h : g < 2 ^ 1000) : binop .fdiv (.int i) (.int (g : Nat)) cs = .ok (.int (i / g)) cs := by
  have l1 : ((g : Int).natAbs).log2 < 1000 := log_lt (by simpa using h) (by decide)
  exact b_fdiv (by omega) (by omega)
theorem two_ten : (2 : Nat) ^ 1000 < 10 ^ 1000 := by decide +kernel
/-- lowest -/
theorem low_eq (h1 : Has tb "common_part" F_common_part) (h : Has tb "lowest" F_lowest) (k : Nat) {a b : Int} (b0 : b ≠ 0) (hb : b.natAbs < 2 ^ 1000) : callAt tb (k + 2) "lowest" [.int a, .int b] cs = .ok (fv (Rat.divInt a b)) cs := by
  rw [call_eq h rfl]
  have c := common_eq (cs := cs) h1 k (a := a) (b := b) (Nat.lt_trans hb two_ten)
  have g0 : 0 < Nat.gcd a.natAbs b.natAbs := Nat.gcd_pos_of_pos_right _ (by omega)
  have g1 : Nat.gcd a.natAbs b.natAbs ≤ b.natAbs := Nat.gcd_le_right _ (by omega)
  have dv : ∀ {i : Int}, binop .fdiv (.int i) (.int (Nat.gcd a.natAbs b.natAbs : Nat)) cs = .ok (.int (i / (Nat.gcd a.natAbs b.natAbs : Nat))) cs := b_fdivZ g0 (by omega)
  have eg : b.gcd a = Nat.gcd a.natAbs b.natAbs := by rw [Int.gcd_comm]; rfl
  have db : ((Nat.gcd a.natAbs b.natAbs : Nat) : Int) ∣ b := Int.ofNat_dvd_left.mpr (Nat.gcd_dvd_right _ _)
  have da : ((Nat.gcd a.natAbs b.natAbs : Nat) : Int) ∣ a := Int.ofNat_dvd_left.mpr (Nat.gcd_dvd_left _ _)
  have e : fv (Rat.divInt a b) = .tup [.int (b.sign * a / (Nat.gcd a.natAbs b.natAbs : Nat)), .int ((b.natAbs : Int) / (Nat.gcd a.natAbs b.natAbs : Nat))] := by
    rw [fv_def, Rat.num_divInt, Rat.den_divInt, if_neg b0, eg]
    simp
  rw [e]
  by_cases hp : 0 < b
  · have s : b.sign = 1 := Int.sign_eq_one_of_pos hp
    have na : (b.natAbs : Int) = b := by omega
    rw [s, na]
    simp [F_lowest, c, dv, hp]
  · have hn : b < 0 := by omega
    have s : b.sign = -1 := Int.sign_eq_neg_one_of_neg hn
    have na : (b.natAbs : Int) = -b := by omega
    rw [s, na]
    simp [F_lowest, c, dv, hp, Int.neg_ediv_of_dvd db, Int.neg_ediv_of_dvd da]
/-- the law's own -/
theorem lawlow_eq (h : Has tb "_law_lowest" F__law_lowest) (k : Nat) {a b : Int} (b0 : b ≠ 0) (ha : a.natAbs < 2 ^ 600) (hb : b.natAbs < 2 ^ 600) : callAt tb (k + 1) "_law_lowest" [.int a, .int b] cs = .ok (fv (Rat.divInt a b)) cs := by
  have t : (2 : Nat) ^ 600 < 10 ^ 200 := by decide +kernel
  have key : ∀ {a b : Int}, 0 < b → fv (Rat.divInt a b) = .tup [.int (a / (Nat.gcd b.natAbs a.natAbs : Nat)), .int (b / (Nat.gcd b.natAbs a.natAbs : Nat))] := by
    intro a b hp
    have eg : b.gcd a = Nat.gcd b.natAbs a.natAbs := rfl
    have s : b.sign = 1 := Int.sign_eq_one_of_pos hp
    have na : (b.natAbs : Int) = b := by omega
    rw [fv_def, Rat.num_divInt, Rat.den_divInt, if_neg (by omega), eg, s]
    simp [na]
  by_cases hp : 0 < b
  · rw [key hp]
    exact lowest_eq h k hp (by omega) (by omega)
  · have hn : b < 0 := by omega
    have e := lowest_eq (cs := cs) h k (a := -a) (b := -b) (by omega) (by omega) (by omega)
    rw [← key (by omega), Rat.neg_divInt_neg] at e
    rw [← e, call_eq h rfl, call_eq h rfl]
    have hn2 : ¬ (-b) < 0 := by omega
    simp [F__law_lowest, hn, hn2, hp]
end
end Ps

set_option maxHeartbeats 1000000
/-! PsRat2: the program's reckoning with fractions. -/
namespace Ps
open PySem L2
theorem mul_sz {a b : Int} {n m : Nat} (ha : a.natAbs < 2 ^ n) (hb : b.natAbs < 2 ^ m) : (a * b).natAbs < 2 ^ (n + m) := by
  rw [Int.natAbs_mul, Nat.pow_add]
  exact Nat.mul_lt_mul'' ha hb
theorem add_sz {a b : Int} {n : Nat} (ha : a.natAbs < 2 ^ n) (hb : b.natAbs < 2 ^ n) : (a + b).natAbs < 2 ^ (n + 1) := by
  rw [Nat.pow_succ]
  have := Int.natAbs_add_le a b
  omega
theorem sub_sz {a b : Int} {n : Nat} (ha : a.natAbs < 2 ^ n) (hb : b.natAbs < 2 ^ n) : (a - b).natAbs < 2 ^ (n + 1) := by
  rw [Nat.pow_succ]
  have := Int.natAbs_sub_le a b
  omega
theorem lt_succ {a n : Nat} (h : a < 2 ^ n) : a < 2 ^ (n + 1) := by rw [Nat.pow_succ]; omega
theorem den_sz {q : Rat} {n : Nat} (h : Sz n q) : (q.den : Int).natAbs < 2 ^ n := by simpa using h.2
theorem den0 (q : Rat) : (q.den : Int) ≠ 0 := by have := q.den_nz; omega
theorem rat_add (p q : Rat) : p + q = Rat.divInt (p.num * q.den + q.num * p.den) (p.den * q.den) := by
  rw [← Rat.divInt_add_divInt _ _ (den0 p) (den0 q), Rat.num_divInt_den, Rat.num_divInt_den]
theorem rat_sub (p q : Rat) : p - q = Rat.divInt (p.num * q.den - q.num * p.den) (p.den * q.den) := by
  rw [← Rat.divInt_sub_divInt _ _ (den0 p) (den0 q), Rat.num_divInt_den, Rat.num_divInt_den]
theorem rat_mul (p q : Rat) : p * q = Rat.divInt (p.num * q.num) (p.den * q.den) := by
  rw [← Rat.divInt_mul_divInt, Rat.num_divInt_den, Rat.num_divInt_den]
theorem rat_div (p q : Rat) : p / q = Rat.divInt (p.num * q.den) (p.den * q.num) := by
  rw [Rat.div_def, Rat.inv_def, ← Rat.divInt_mul_divInt, Rat.num_divInt_den]
theorem rat_half : (Rat.divInt 1 2) = 1 / 2 := by rw [rat_div]; rfl
theorem rat_mean (p q : Rat) : (p + q) / 2 = Rat.divInt (p.num * q.den + q.num * p.den) (2 * p.den * q.den) := by
  have e : (2 : Int) * p.den * q.den = (p.den * q.den) * 2 := by grind
  have e2 : p.num * q.den + q.num * p.den = (p.num * q.den + q.num * p.den) * 1 := by simp
  rw [e, e2, ← Rat.divInt_mul_divInt, ← rat_add, rat_half]
  grind
theorem num0 {q : Rat} : q.num = 0 ↔ q = 0 := by
  constructor
  · intro h; exact Rat.num_eq_zero.mp h
  · rintro rfl; rfl
theorem prod0 (p q : Rat) : (p.den : Int) * q.den ≠ 0 := Int.mul_ne_zero (den0 p) (den0 q)
theorem sz_add {p q : Rat} {n m : Nat} (hp : Sz n p) (hq : Sz m q) : Sz (n + m + 1) (p + q) := by
  rw [rat_add]
  refine div_sz (add_sz (mul_sz hp.1 (den_sz hq)) ?_) (lt_succ (mul_sz (den_sz hp) (den_sz hq))) (prod0 p q)
  rw [Nat.add_comm n m]
  exact mul_sz hq.1 (den_sz hp)
theorem sz_sub {p q : Rat} {n m : Nat} (hp : Sz n p) (hq : Sz m q) : Sz (n + m + 1) (p - q) := by
  rw [rat_sub]
  refine div_sz (sub_sz (mul_sz hp.1 (den_sz hq)) ?_) (lt_succ (mul_sz (den_sz hp) (den_sz hq))) (prod0 p q)
  rw [Nat.add_comm n m]
  exact mul_sz hq.1 (den_sz hp)
theorem sz_mul {p q : Rat} {n m : Nat} (hp : Sz n p) (hq : Sz m q) : Sz (n + m) (p * q) := by
  rw [rat_mul]
  exact div_sz (mul_sz hp.1 hq.1) (mul_sz (den_sz hp) (den_sz hq)) (prod0 p q)
theorem sz_div {p q : Rat} {n m : Nat} (hp : Sz n p) (hq : Sz m q) (q0 : q ≠ 0) : Sz (n + m) (p / q) := by
  rw [rat_div]
  exact div_sz (mul_sz hp.1 (den_sz hq)) (mul_sz (den_sz hp) hq.1) (Int.mul_ne_zero (den0 p) fun z => q0 (num0.mp z))
theorem sz_mean {p q : Rat} {n m : Nat} (hp : Sz n p) (hq : Sz m q) : Sz (n + m + 1) ((p + q) / 2) := by
  rw [rat_mean]
  refine div_sz (add_sz (mul_sz hp.1 (den_sz hq)) ?_) ?_ (Int.mul_ne_zero (Int.mul_ne_zero (by decide) (den0 p)) (den0 q))
  · rw [Nat.add_comm n m]
    exact mul_sz hq.1 (den_sz hp)
  · have := mul_sz (den_sz hp) (den_sz hq)
    rw [Int.mul_assoc, Int.natAbs_mul, Nat.pow_succ, show (2 : Int).natAbs = 2 from rfl]
    omega
/-- the fractions' defs stand in the table -/
structure FL (tb : List (Str × Fn)) : Prop where
  common : Has tb "common_part" F_common_part
  low : Has tb "lowest" F_lowest
structure FT (tb : List (Str × Fn)) : Prop extends FL tb where
  whole : Has tb "is_whole" F_is_whole
instance {tb : List (Str × Fn)} : Coe (FT tb) (FL tb) := ⟨FT.toFL⟩
section
variable {tb : List (Str × Fn)} {cs : Cells}
theorem plus_eq (T : FL tb) (h : Has tb "plus" F_plus) (k : Nat) {p q : Rat} {n m : Nat} (hp : Sz n p) (hq : Sz m q) (l : n + m < 990) : callAt tb (k + 3) "plus" [fv p, fv q] cs = .ok (fv (p + q)) cs := by
  rw [call_eq h rfl, rat_add]
  have e1 : binop .mul (.int p.num) (.int q.den) cs = .ok (.int (p.num * q.den)) cs := b_mulZ hp.1 (den_sz hq) (by omega)
  have e2 : binop .mul (.int q.num) (.int p.den) cs = .ok (.int (q.num * p.den)) cs := b_mulZ hq.1 (den_sz hp) (by omega)
  have e3 : binop .mul (.int p.den) (.int q.den) cs = .ok (.int (p.den * q.den)) cs := b_mulZ (den_sz hp) (den_sz hq) (by omega)
  have e4 := low_eq (cs := cs) T.common T.low k (a := p.num * q.den + q.num * p.den) (prod0 p q) (Nat.lt_of_lt_of_le (mul_sz (den_sz hp) (den_sz hq)) (Nat.pow_le_pow_right (by decide) (by omega)))
  simp [F_plus, ix_fv0, ix_fv1, e1, e2, e3, e4, lv_fv]
theorem less_eq (T : FL tb) (h : Has tb "less" F_less) (k : Nat) {p q : Rat} {n m : Nat} (hp : Sz n p) (hq : Sz m q) (l : n + m < 990) : callAt tb (k + 3) "less" [fv p, fv q] cs = .ok (fv (p - q)) cs := by
  rw [call_eq h rfl, rat_sub]
  have e1 : binop .mul (.int p.num) (.int q.den) cs = .ok (.int (p.num * q.den)) cs := b_mulZ hp.1 (den_sz hq) (by omega)
  have e2 : binop .mul (.int q.num) (.int p.den) cs = .ok (.int (q.num * p.den)) cs := b_mulZ hq.1 (den_sz hp) (by omega)
  have e3 : binop .mul (.int p.den) (.int q.den) cs = .ok (.int (p.den * q.den)) cs := b_mulZ (den_sz hp) (den_sz hq) (by omega)
  have e4 := low_eq (cs := cs) T.common T.low k (a := p.num * q.den - q.num * p.den) (prod0 p q) (Nat.lt_of_lt_of_le (mul_sz (den_sz hp) (den_sz hq)) (Nat.pow_le_pow_right (by decide) (by omega)))
  simp [F_less, ix_fv0, ix_fv1, e1, e2, e3, e4, lv_fv]
theorem times_eq (T : FL tb) (h : Has tb "times" F_times) (k : Nat) {p q : Rat} {n m : Nat} (hp : Sz n p) (hq : Sz m q) (l : n + m < 990) : callAt tb (k + 3) "times" [fv p, fv q] cs = .ok (fv (p * q)) cs := by
  rw [call_eq h rfl, rat_mul]
  have e1 : binop .mul (.int p.num) (.int q.num) cs = .ok (.int (p.num * q.num)) cs := b_mulZ hp.1 hq.1 (by omega)
  have e3 : binop .mul (.int p.den) (.int q.den) cs = .ok (.int (p.den * q.den)) cs := b_mulZ (den_sz hp) (den_sz hq) (by omega)
  have e4 := low_eq (cs := cs) T.common T.low k (a := p.num * q.num) (prod0 p q) (Nat.lt_of_lt_of_le (mul_sz (den_sz hp) (den_sz hq)) (Nat.pow_le_pow_right (by decide) (by omega)))
  simp [F_times, ix_fv0, ix_fv1, e1, e3, e4, lv_fv]
theorem over_eq (T : FL tb) (h : Has tb "over" F_over) (k : Nat) {p q : Rat} {n m : Nat} (hp : Sz n p) (hq : Sz m q) (l : n + m < 990) (q0 : q ≠ 0) : callAt tb (k + 3) "over" [fv p, fv q] cs = .ok (fv (p / q)) cs := by
  rw [call_eq h rfl, rat_div]
  have qn : q.num ≠ 0 := fun z => q0 (num0.mp z)
  have e1 : binop .mul (.int p.num) (.int q.den) cs = .ok (.int (p.num * q.den)) cs := b_mulZ hp.1 (den_sz hq) (by omega)
  have e3 : binop .mul (.int p.den) (.int q.num) cs = .ok (.int (p.den * q.num)) cs := b_mulZ (den_sz hp) hq.1 (by omega)
  have e4 := low_eq (cs := cs) T.common T.low k (a := p.num * q.den) (b := p.den * q.num) (Int.mul_ne_zero (den0 p) qn) (Nat.lt_of_lt_of_le (mul_sz (den_sz hp) hq.1) (Nat.pow_le_pow_right (by decide) (by omega)))
  simp [F_over, ix_fv0, ix_fv1, e1, e3, e4, lv_fv, qn]
theorem over_0 (h : Has tb "over" F_over) (k : Nat) {p : Rat} : callAt tb (k + 1) "over" [fv p, fv 0] cs = .ex (.exc "OutOfPlace" [] []) cs := by
  rw [call_eq h rfl]
  simp [F_over, ix_fv0]
theorem mean_eq (T : FL tb) (h : Has tb "mean" F_mean) (k : Nat) {p q : Rat} {n m : Nat} (hp : Sz n p) (hq : Sz m q) (l : n + m < 990) : callAt tb (k + 3) "mean" [fv p, fv q] cs = .ok (fv ((p + q) / 2)) cs := by
  rw [call_eq h rfl, rat_mean]
  have d2 : ((2 : Int) * p.den).natAbs < 2 ^ (2 + n) := mul_sz (by decide) (den_sz hp)
  have e1 : binop .mul (.int p.num) (.int q.den) cs = .ok (.int (p.num * q.den)) cs := b_mulZ hp.1 (den_sz hq) (by omega)
  have e2 : binop .mul (.int q.num) (.int p.den) cs = .ok (.int (q.num * p.den)) cs := b_mulZ hq.1 (den_sz hp) (by omega)
  have e0 : binop .mul (.int 2) (.int p.den) cs = .ok (.int (2 * p.den)) cs := b_mulZ (n := 2) (by decide) (den_sz hp) (by omega)
  have e3 : binop .mul (.int (2 * p.den)) (.int q.den) cs = .ok (.int (2 * p.den * q.den)) cs := b_mulZ d2 (den_sz hq) (by omega)
  have e4 := low_eq (cs := cs) T.common T.low k (a := p.num * q.den + q.num * p.den) (b := 2 * p.den * q.den) (Int.mul_ne_zero (Int.mul_ne_zero (by decide) (den0 p)) (den0 q)) (Nat.lt_of_lt_of_le (mul_sz d2 (den_sz hq)) (Nat.pow_le_pow_right (by decide) (by omega)))
  simp [F_mean, ix_fv0, ix_fv1, e0, e1, e2, e3, e4, lv_fv]
/-- -1, 0, 1 -/
def cmpR (p q : Rat) : Int := if p < q then -1 else if p = q then 0 else 1
theorem compared_eq (h : Has tb "compared" F_compared) (k : Nat) {p q : Rat} {n m : Nat} (hp : Sz n p) (hq : Sz m q) (l : n + m < 990) : callAt tb (k + 1) "compared" [fv p, fv q] cs = .ok (.int (cmpR p q)) cs := by
  rw [call_eq h rfl]
  have e1 : binop .mul (.int p.num) (.int q.den) cs = .ok (.int (p.num * q.den)) cs := b_mulZ hp.1 (den_sz hq) (by omega)
  have e2 : binop .mul (.int q.num) (.int p.den) cs = .ok (.int (q.num * p.den)) cs := b_mulZ hq.1 (den_sz hp) (by omega)
  have pi : ∀ b : Bool, primV .int [.bl b] cs = .ok (.int (if b then 1 else 0)) cs := fun b => rfl
  have l1 := Rat.lt_iff p q
  have l2 := Rat.lt_iff q p
  unfold cmpR
  by_cases c1 : p.num * q.den < q.num * p.den
  · have c2 : ¬ q.num * p.den < p.num * q.den := by omega
    simp [F_compared, ix_fv0, ix_fv1, e1, e2, pi, c1, c2, l1.mpr c1]
  · have n1 : ¬ p < q := fun z => c1 (l1.mp z)
    by_cases c2 : q.num * p.den < p.num * q.den
    · have n2 : p ≠ q := by rintro rfl; exact Rat.lt_irrefl (l2.mpr c2)
      simp [F_compared, ix_fv0, ix_fv1, e1, e2, pi, c1, c2, n1, n2]
    · have n3 : p = q := Rat.le_antisymm (Rat.not_lt.mp fun z => c2 (l2.mp z)) (Rat.not_lt.mp n1)
      rw [if_neg n1, if_pos n3]
      simp [F_compared, ix_fv0, ix_fv1, e1, e2, pi, c1, c2]
theorem cmpR_lt {p q : Rat} : (cmpR p q < 0) ↔ p < q := by
  unfold cmpR
  by_cases h : p < q
  · simp [h]
  · by_cases h2 : p = q <;> simp [h, h2] <;> exact Rat.lt_irrefl
theorem cmpR_le {p q : Rat} : (cmpR p q < 1) ↔ p ≤ q := by
  unfold cmpR
  by_cases h : p < q
  · simp [h]; exact Rat.le_of_lt h
  · by_cases h2 : p = q
    · simp [h2, Rat.lt_irrefl, Rat.le_refl]
    · simp [h, h2]; grind
theorem under_eq (h1 : Has tb "compared" F_compared) (h : Has tb "is_under" F_is_under) (k : Nat) {p q : Rat} {n m : Nat} (hp : Sz n p) (hq : Sz m q) (l : n + m < 990) : callAt tb (k + 2) "is_under" [fv p, fv q] cs = .ok (.bl (decide (p < q))) cs := by
  rw [call_eq h rfl]
  have e := compared_eq (cs := cs) h1 k hp hq l
  simp [F_is_under, e, cmpR_lt]
theorem floor_eq (h : Has tb "floor_of" F_floor_of) (k : Nat) {p : Rat} {n : Nat} (hp : Sz n p) (l : n < 990) : callAt tb (k + 1) "floor_of" [fv p] cs = .ok (.int p.floor) cs := by
  rw [call_eq h rfl, fv_def, Rat.floor_def]
  have e : ∀ {cs : Cells}, binop .fdiv (.int p.num) (.int p.den) cs = .ok (.int (p.num / p.den)) cs := b_fdivZ (by have := p.den_nz; omega) (Nat.lt_of_lt_of_le hp.2 (Nat.pow_le_pow_right (by decide) (by omega)))
  simp [F_floor_of, e]
theorem rat_int (n : Int) : Rat.divInt n 1 = (n : Rat) := by
  apply Rat.ext
  · rw [Rat.num_divInt]; simp
  · rw [Rat.den_divInt]; simp
theorem fraction_eq (T : FT tb) (h : Has tb "fraction" F_fraction) (k : Nat) {a b : Int} (b0 : b ≠ 0) (hb : b.natAbs < 2 ^ 1000) : callAt tb (k + 3) "fraction" [.int a, .int b] cs = .ok (fv (Rat.divInt a b)) cs := by
  rw [call_eq h rfl]
  have w := fun i => is_whole_eq (cs := cs) T.whole (k + 1) i
  have e4 := low_eq (cs := cs) T.common T.low k (a := a) b0 hb
  simp [F_fraction, w, b0, e4, lv_fv]
theorem fraction_0 (T : FT tb) (h : Has tb "fraction" F_fraction) (k : Nat) {a : Int} : callAt tb (k + 2) "fraction" [.int a, .int 0] cs = .ex (.exc "OutOfPlace" [] []) cs := by
  rw [call_eq h rfl]
  have w := fun i => is_whole_eq (cs := cs) T.whole k i
  simp [F_fraction, w]
end
end Ps

set_option maxHeartbeats 1000000
/-! PsRat3: many fractions. -/
namespace Ps
open PySem L2
/-- where the program puts one more -/
def insR (x : Rat) (l : List Rat) : List Rat := l.take (l.filter fun y => decide (y ≤ x)).length ++ [x] ++ l.drop (l.filter fun y => decide (y ≤ x)).length
def risR (qs : List Rat) : List Rat := qs.foldl (fun l x => insR x l) []
theorem insR_len (x : Rat) (l : List Rat) : (insR x l).length = l.length + 1 := by
  unfold insR
  have := List.length_filter_le (fun y => decide (y ≤ x)) l
  simp
  omega
theorem insR_mem {x y : Rat} {l : List Rat} : y ∈ insR x l ↔ y = x ∨ y ∈ l := by
  unfold insR
  generalize (l.filter fun y => decide (y ≤ x)).length = n
  have e : y ∈ l ↔ y ∈ l.take n ∨ y ∈ l.drop n := by
    rw [← List.mem_append, List.take_append_drop]
  rw [e]
  simp
  grind
theorem fold_mem : ∀ (qs l : List Rat) (y : Rat), y ∈ qs.foldl (fun l x => insR x l) l ↔ y ∈ l ∨ y ∈ qs
  | [], l, y => by simp
  | q :: qs, l, y => by
    rw [List.foldl_cons, fold_mem qs, insR_mem]
    simp
    grind
theorem fold_len : ∀ (qs l : List Rat), (qs.foldl (fun l x => insR x l) l).length = l.length + qs.length
  | [], l => by simp
  | q :: qs, l => by
    rw [List.foldl_cons, fold_len qs, insR_len]
    simp
    omega
theorem risR_mem {qs : List Rat} {y : Rat} : y ∈ risR qs ↔ y ∈ qs := by simp [risR, fold_mem]
theorem risR_len (qs : List Rat) : (risR qs).length = qs.length := by simp [risR, fold_len]
section
variable {tb : List (Str × Fn)} {cs : Cells}
theorem Wp.eq {α : Type} {r : R α} {a : α} {cs : Cells} (h : Wp r fun b cs' => b = a ∧ cs' = cs) : r = .ok a cs := by
  obtain ⟨b, c, e, rfl, rfl⟩ := h.ex
  exact e
theorem get_last' {c : Cell} : (cs ++ [c])[cs.length]? = some c := by simp
theorem listOf_last {xs : List Val} : listOf (cs ++ [.list xs]) (.ref cs.length) = some xs := by
  show (match (cs ++ [Cell.list xs])[cs.length]? with | some (.list xs) => some xs | _ => none) = _
  rw [get_last']
theorem listW_last {xs : List Val} : listW (cs ++ [.list xs]) (.ref cs.length) = some xs := by
  show (match (cs ++ [Cell.list xs])[cs.length]? with | some (.list xs) => some xs | _ => none) = _
  rw [get_last']
theorem it_last {xs : List Val} : itemsOf .val [.ref cs.length] (cs ++ [.list xs]) = some xs := listOf_last
theorem ins_last {xs : List Val} {k : Nat} {v : Val} (hv : noRef v = true) (hl : xs.length < sizeLine) (hk : (k : Int) < 2 ^ 63) : lmethV .insert (.ref cs.length) [.int k, v] (cs ++ [.list xs]) = .ok .non (cs ++ [.list (xs.take k ++ [v] ++ xs.drop k)]) := by
  have e : (decide (xs.length < sizeLine) && decide (0 ≤ (k : Int)) && decide ((k : Int) < 2 ^ 63)) = true := by
    rw [decide_eq_true hl, decide_eq_true (by omega), decide_eq_true hk]; rfl
  unfold lmethV
  simp only [get_last']
  rw [if_pos (by rw [hv, Bool.true_and]; exact e)]
  simp
theorem app_last {xs : List Val} {v : Val} (hv : noRef v = true) (hl : xs.length < sizeLine) : lmethV .append (.ref cs.length) [v] (cs ++ [.list xs]) = .ok .non (cs ++ [.list (xs ++ [v])]) := by
  unfold lmethV
  simp only [get_last']
  rw [if_pos (by rw [hv, decide_eq_true hl]; rfl)]
  simp
theorem lv_last {xs : List Val} : leave cs.length (.ok (.rt (.ref cs.length)) (cs ++ [.list xs])) = .ok (.lst xs) cs := by
  simp [leave]
theorem map_cons_of {α : Type} {f : α → Val} {x : Val} {xs : List Val} {l : List α} (h : x :: xs = l.map f) : ∃ a l', l = a :: l' ∧ x = f a ∧ xs = l'.map f := by
  cases l with
  | nil => simp at h
  | cons a l' => rw [List.map_cons] at h; injection h with h1 h2; exact ⟨a, l', rfl, h1, h2⟩
theorem map_nil_of {α : Type} {f : α → Val} {l : List α} (h : [] = l.map f) : l = [] := List.map_eq_nil_iff.mp h.symm
theorem total_eq (T : FL tb) (h1 : Has tb "plus" F_plus) (h : Has tb "total" F_total) (k n : Nat) {v : Val} {qs : List Rat} (hv : itVal v cs = some (qs.map fv)) (hz : ∀ q ∈ qs, Sz n q) (hn : (n + 1) * qs.length + 1 < 990) : callAt tb (k + 4) "total" [v] cs = .ok (fv (qs.foldl (· + ·) 0)) cs := by
  apply Wp.eq
  refine call_wp h rfl ?_
  simp [F_total, ex_for]
  rw [show itemsOf .val [v] cs = some (qs.map fv) from hv]
  simp
  have z0 : Sz 1 0 := ⟨by decide, by decide⟩
  refine for_wp (fun xs σ cs' => ∃ (rest : List Rat) (acc : Rat) (m : Nat) (a2 : Option Val), xs = rest.map fv ∧ σ = [some v, some (fv acc), a2] ∧ cs' = cs ∧ (∀ q ∈ rest, Sz n q) ∧ Sz m acc ∧ m + (n + 1) * rest.length < 990 ∧ rest.foldl (· + ·) acc = qs.foldl (· + ·) 0)
    ⟨qs, 0, 1, none, rfl, by rw [fv_0], rfl, hz, z0, by omega, rfl⟩ ?_ ?_
  · rintro σ cs' ⟨rest, acc, m, a2, hx, rfl, rfl, _, _, _, e⟩
    obtain rfl := map_nil_of hx
    have e : acc = List.foldl (· + ·) 0 qs := e
    subst e
    simp [lv_fv]
  · rintro x xs σ cs' ⟨rest, acc, m, a2, hx, rfl, rfl, hq, hm, hl, e⟩
    obtain ⟨q, rest, rfl, rfl, rfl⟩ := map_cons_of hx
    rw [List.length_cons, Nat.mul_succ] at hl
    have p := plus_eq (cs := cs') T h1 k hm (hq q List.mem_cons_self) (by omega)
    simp [p]
    exact ⟨decide_eq_true hv, rest, rfl, acc + q, rfl, fun y hy => hq y (List.mem_cons_of_mem _ hy), m + n + 1, sz_add hm (hq q List.mem_cons_self), by omega, e⟩
theorem rising_eq (h1 : Has tb "compared" F_compared) (h : Has tb "rising" F_rising) (k n : Nat) {v : Val} {qs : List Rat} (hv : ∀ c, itVal v (cs ++ [c]) = some (qs.map fv)) (hz : ∀ q ∈ qs, Sz n q) (hn : n + n < 990) (hl : qs.length < 10000) : callAt tb (k + 2) "rising" [v] cs = .ok (.lst ((risR qs).map fv)) cs := by
  apply Wp.eq
  refine call_wp h rfl ?_
  simp [F_rising, ex_for]
  rw [show itemsOf .val [v] (cs ++ [.list []]) = some (qs.map fv) from hv _]
  simp
  refine for_wp (fun xs σ cs' => ∃ (rest done : List Rat) (a2 a3 a4 : Option Val), xs = rest.map fv ∧ σ = [some v, some (.ref cs.length), a2, a3, a4] ∧ cs' = cs ++ [.list (done.map fv)] ∧ (∀ q ∈ rest, Sz n q) ∧ (∀ q ∈ done, Sz n q) ∧ done.length + rest.length < 10000 ∧ rest.foldl (fun l x => insR x l) done = risR qs)
    ⟨qs, [], none, none, none, rfl, rfl, rfl, hz, by simp, by simpa using hl, rfl⟩ ?_ ?_
  · rintro σ cs' ⟨rest, done, a2, a3, a4, hx, rfl, rfl, _, _, _, e⟩
    obtain rfl := map_nil_of hx
    have e : done = risR qs := e
    subst e
    simp [lv_last]
  · rintro x xs σ cs' ⟨rest, done, a2, a3, a4, hx, rfl, rfl, hq, hd, hl2, e⟩
    obtain ⟨q, rest, rfl, rfl, rfl⟩ := map_cons_of hx
    have lc : ∀ (a3 a4 : Option Val), ev (callAt tb (k + 1)) (.lcomp (.var 4) (.nm 4) .val [(.var 1)] [(.cmp .lt (.call "compared" [(.var 4), (.var 2)] [.inl 0, .inl 1]) (.const (.int (1))))] [4]) [some v, some (.ref cs.length), some (fv q), a3, a4] (cs ++ [.list (done.map fv)]) = .ok (.lst ((done.filter fun y => decide (y ≤ q)).map fv)) (cs ++ [.list (done.map fv)]) := by
      intro a3 a4
      rw [ev_lcomp]
      simp [it_last]
      rw [lc_filter fv (fun y => decide (y ≤ q)) (decide_eq_true it_last) done ?_ (fun _ _ => nr_fv) (by simp at hl2 ⊢; omega)]
      · simp
      · intro y hy
        have c := compared_eq (cs := cs ++ [.list (done.map fv)]) h1 k (hd y hy) (hq q List.mem_cons_self) (by omega)
        have le := cmpR_le (p := y) (q := q)
        by_cases g : y ≤ q
        · have g2 := le.mpr g
          simp [lcStep, wipeS, c, g, g2]
        · have g2 : ¬ cmpR y q < 1 := fun z => g (le.mp z)
          simp [lcStep, wipeS, c, g, g2]
    have ll := List.length_filter_le (fun y => decide (y ≤ q)) done
    have i := ins_last (cs := cs) (xs := done.map fv) (k := (done.filter fun y => decide (y ≤ q)).length) (v := fv q) nr_fv (by simp at hl2 ⊢; omega) (by simp at hl2; omega)
    have ei : (done.map fv).take (done.filter fun y => decide (y ≤ q)).length ++ [fv q] ++ (done.map fv).drop (done.filter fun y => decide (y ≤ q)).length = (insR q done).map fv := by
      unfold insR
      simp [List.map_take, List.map_drop]
    rw [ei] at i
    simp [lc, listW_last, i]
    refine ⟨decide_eq_true (hv _), rest, rfl, insR q done, by simp, fun y hy => hq y (List.mem_cons_of_mem _ hy), fun y hy => ?_, ?_, e⟩
    · rcases insR_mem.mp hy with rfl | hy
      · exact hq y List.mem_cons_self
      · exact hd y hy
    · rw [insR_len]; simp at hl2; omega
end
end Ps

set_option maxHeartbeats 1000000
/-! PsRat4: fractions in order; is_fraction. -/
namespace Ps
open PySem L2
/-- each once -/
def onceP (l : List Rat) (p : Rat × Nat) : Bool := decide (p.2 = 0) || decide (l[p.2 - 1]? ≠ some p.1)
def dedR (l : List Rat) : List Rat := (l.zipIdx.filter (onceP l)).map (·.1)
section
variable {tb : List (Str × Fn)} {cs : Cells}
theorem enum_fv {l : List Rat} : itemsOf .enum [.lst (l.map fv)] cs = some (l.zipIdx.map fun p => .tup [.int (p.2 : Nat), fv p.1]) := by
  show some (((l.map fv).zipIdx.map fun p => Val.tup [.int (p.2 : Nat), p.1])) = _
  rw [List.zipIdx_map, List.map_map]
  rfl
theorem chk_enum_fv {l : List Rat} {cs' : Cells} : chkOf .enum [.lst (l.map fv)] (l.zipIdx.map fun p => .tup [.int (p.2 : Nat), fv p.1]) cs' = true := decide_eq_true enum_fv
theorem in_order_eq (h1 : Has tb "compared" F_compared) (h2 : Has tb "rising" F_rising) (h : Has tb "in_order" F_in_order) (k n : Nat) {v : Val} {qs : List Rat} (tw : Bool) (hv : ∀ c, itVal v (cs ++ [c]) = some (qs.map fv)) (hz : ∀ q ∈ qs, Sz n q) (hn : n + n < 990) (hl : qs.length < 10000) :
    callAt tb (k + 3) "in_order" [v, .bl tw] cs = .ok (.tup ((if tw then risR qs else dedR (risR qs)).map fv)) cs := by
  rw [call_eq h rfl]
  have r := rising_eq (cs := cs) h1 h2 k n hv hz hn hl
  have ll := risR_len qs
  generalize hL : risR qs = L at r ll
  have lc : ∀ (a3 a4 : Option Val), ev (callAt tb (k + 2)) (.lcomp (.var 4) (.tp [(.nm 3), (.nm 4)]) .enum [(.var 2)] [(.or_ (.var 1) (.or_ (.cmp .eq (.var 3) (.const (.int (0)))) (.cmp .ne (.ix (.var 2) (.bin .sub (.var 3) (.const (.int (1))))) (.var 4))))] [3, 4]) [some v, some (.bl tw), some (.lst (L.map fv)), a3, a4] cs = .ok (.lst ((if tw then L else dedR L).map fv)) cs := by
    intro a3 a4
    rw [ev_lcomp]
    simp [enum_fv]
    rw [lc_fm (fun p : Rat × Nat => Val.tup [.int (p.2 : Nat), fv p.1]) (fun p => if (tw || onceP L p) = true then some (fv p.1) else none) chk_enum_fv L.zipIdx [] ?_ (fun p _ w hw => by split at hw <;> cases hw; exact nr_fv) (by simp; omega)]
    · simp
      cases tw with
      | true =>
        simp
        have : ∀ (l : List Rat) (i : Nat), (l.zipIdx i).map (fun p => fv p.1) = l.map fv := by
          intro l
          induction l with
          | nil => intro i; rfl
          | cons a l ih => intro i; simp [ih]
        exact this L 0
      | false =>
        simp [dedR]
        have : ∀ (l : List (Rat × Nat)), l.filterMap (fun p => if onceP L p = true then some (fv p.1) else none) = (l.filter (onceP L)).map fun p => fv p.1 := by
          intro l
          induction l with
          | nil => rfl
          | cons a l ih => by_cases g : onceP L a = true <;> simp [List.filterMap_cons, List.filter_cons, g, ih]
        rw [this]
        rfl
    · rintro ⟨q, i⟩ hp
      have hi := List.mem_zipIdx hp
      simp at hi
      obtain ⟨hi, hq⟩ := hi
      cases tw with
      | true => simp [lcStep, wipeS]
      | false =>
        by_cases g : i = 0
        · subst g; simp [lcStep, wipeS, onceP]
        · have ha : L2.atI (L.map fv) ((i : Int) - 1) = some (fv (L[i - 1]'(by omega))) := by
            have e : (i : Int) - 1 = ((i - 1 : Nat) : Int) := by omega
            rw [e, atI_at (by simp; omega), List.getElem?_map, List.getElem?_eq_getElem (by omega)]
            rfl
          have gi : (i : Int) ≠ 0 := by omega
          have e2 : L[i - 1]? = some (L[i - 1]'(by omega)) := List.getElem?_eq_getElem (by omega)
          by_cases g2 : L[i - 1]'(by omega) = q
          · simp [lcStep, wipeS, g, ha, eq_fv, onceP, e2, g2]
          · simp [lcStep, wipeS, g, ha, eq_fv, onceP, e2, g2]
  have pt : ∀ xs : List Val, primV .tuple [.lst xs] cs = .ok (.tup xs) cs := fun xs => rfl
  simp [F_in_order, r, lc, pt]
theorem isfrac_eq (T : FT tb) (h : Has tb "is_fraction" F_is_fraction) (k n : Nat) {q : Rat} (hz : Sz n q) (hn : n < 900) : callAt tb (k + 2) "is_fraction" [fv q, .non] cs = .ok (.bl true) cs := by
  have e := is_fraction_eq (cs := cs) T.whole T.common h k (a := q.num) (b := q.den) (by
    have := den_sz hz
    have l := Nat.pow_le_pow_right (show 0 < 2 by decide) (show n ≤ 1000 by omega)
    have := two_ten
    omega)
  rw [fv_def, e]
  have g : Nat.gcd q.num.natAbs q.den = 1 := q.reduced
  have d := q.den_nz
  simp [g]
  omega
end
end Ps

set_option maxHeartbeats 1000000
/-! PsFrac: a fraction's text is read back. -/
namespace Ps
open PySem L2
theorem numL_head : ∀ {n : Nat}, 1 ≤ n → (TL.numL n).head? ≠ some 48 := by
  intro n
  induction n using Nat.strongRecOn with
  | _ n ih =>
    intro h
    by_cases h10 : n < 10
    · rw [TL.numL_lt h10]
      simp
      omega
    · rw [TL.numL_step (by omega)]
      have := ih (n / 10) (by omega) (by omega)
      cases q : TL.numL (n / 10) with
      | nil => exact absurd q (TL.numL_ne _)
      | cons c l => rw [q] at this; simpa using this
theorem numL_fig (n : Nat) : (TL.numL n).all fig = true := List.all_eq_true.mpr fun c hc => by
  simpa [fig] using TL.numL_digits n c hc
theorem num_back {n : Nat} (h : n < 10000) : numL' (TL.numL n) = .int n := by
  have h1 : 1 ≤ (TL.numL n).length := List.length_pos_iff.mpr (TL.numL_ne n)
  have h2 : (TL.numL n).length ≤ 4 := TL.numL_len (by decide) h
  have h3 : ¬ (1 < (TL.numL n).length ∧ (TL.numL n).head? = some 48) := by
    rintro ⟨g1, g2⟩
    by_cases h0 : n = 0
    · subst h0
      rw [TL.numL_lt (by decide)] at g1
      simp at g1
    · exact numL_head (by omega) g2
  unfold numL'
  rw [if_pos ⟨h1, h2, numL_fig n, h3⟩, TL.numL_val]
theorem tl_int (a : Int) : TL.tl (Str.ofString (toString a)) = if a < 0 then 45 :: TL.numL a.natAbs else TL.numL a.natAbs := by
  split
  · rename_i h
    rw [PyProof.Rows.toString_neg h, TL.tl_ofString, String.toList_append, List.map_append]
    have e : (0 : Int) - a = (a.natAbs : Nat) := by omega
    have := TL.tl_num a.natAbs
    rw [← e, TL.tl_ofString] at this
    rw [this]
    rfl
  · have e : a = (a.natAbs : Nat) := by omega
    rw [← TL.tl_num, ← e]
theorem sign_back {a : Int} (h : a.natAbs < 10000) : signL (TL.tl (Str.ofString (toString a))) = .int a := by
  rw [tl_int]
  unfold signL
  split
  · rename_i hn
    rw [if_pos (show (45 :: TL.numL a.natAbs).head? = some 45 from rfl)]
    rw [List.tail_cons, num_back h]
    dsimp only
    rw [if_neg (by omega)]
    congr 1
    omega
  · rename_i hn
    rw [if_neg, num_back h]
    · congr 1
      omega
    · intro e
      cases q : TL.numL a.natAbs with
      | nil => rw [q] at e; cases e
      | cons c l =>
        rw [q] at e
        have e : c = 45 := by simpa using e
        have := TL.numL_digits a.natAbs c (by rw [q]; exact List.mem_cons_self)
        omega
theorem int_free (a : Int) : 47 ∉ TL.tl (Str.ofString (toString a)) := by
  rw [tl_int]
  split
  · intro h
    rcases List.mem_cons.mp h with h | h
    · cases h
    · exact TL.numL_free (by decide) h
  · exact TL.numL_free (by decide)
theorem parts_text (a b : Int) : parts (fracT a b) = if b = 1 then [TL.tl (Str.ofString (toString a))] else [TL.tl (Str.ofString (toString a)), TL.tl (Str.ofString (toString b))] := by
  have ey : TL.tl (Str.ofString "/") = 47 :: [] := by decide +kernel
  have hk : (Str.ofString "/").cps.all (· < 256) = true := by decide +kernel
  unfold fracT parts
  split
  · have := TL.split_join ey hk (parts := [Str.ofString (toString a)]) (by simp) (fun p hp => by rw [List.mem_singleton.mp hp]; exact int_free a)
    rw [show Txt.join (Str.ofString "/") [Str.ofString (toString a)] = Str.ofString (toString a) by rw [TL.join_eq]; rfl] at this
    rw [this]
    rfl
  · have := TL.split_join ey hk (parts := [Str.ofString (toString a), Str.ofString (toString b)]) (by simp) (fun p hp => by
      rcases List.mem_cons.mp hp with rfl | hp
      · exact int_free a
      · rw [List.mem_singleton.mp hp]; exact int_free b)
    rw [show Txt.join (Str.ofString "/") [Str.ofString (toString a), Str.ofString (toString b)] = Str.ofString (toString a) ++ Str.ofString "/" ++ Str.ofString (toString b) by rw [TL.join_eq]; rfl] at this
    rw [this]
    rfl
theorem read_back {a b : Int} (hf : Frac a b) (h1 : a.natAbs < 10000) (h2 : b < 10000) : readP (parts (fracT a b)) = .tup [.int a, .int b] := by
  rw [parts_text]
  split
  · rename_i hb
    subst hb
    simp only [readP, sign_back h1]
  · rename_i hb
    have b0 := hf.1
    have eb : TL.tl (Str.ofString (toString b)) = TL.numL b.natAbs := by rw [tl_int, if_neg (by omega)]
    have e2 : ((b.natAbs : Nat) : Int) = b := by omega
    simp only [readP, eb, num_back (n := b.natAbs) (by omega), sign_back h1, e2]
    rw [if_neg (by omega), if_pos hf.2.2.2]
end Ps

set_option maxHeartbeats 1000000
/-! PsOuter: the laws' loop over the cells of the script. -/
namespace Ps
open PySem L2
section
variable {tb : List (Str × Fn)} {cs : Cells}
theorem ints_of : ∀ ns : List Int, intsOf (ns.map .int) = some ns
  | [] => rfl
  | n :: ns => by simp [intsOf, ints_of ns]
theorem sum_fro {ns : List Int} : primV .sum [.fro (ns.map .int)] cs = .ok (.int ns.sum) cs := by
  show (R.of ((some (ns.map Val.int)).bind intsOf) cs).bind _ = _
  rw [Option.bind_some, ints_of]
  rfl
theorem cut_fro {xs : List Val} {k : Nat} : sliceV (.fro xs) none (some (k : Int)) cs = .ok (.lst (xs.take k)) cs := by
  show R.ok (Val.lst (cutL xs none (some (k : Int)))) cs = _
  congr 2
  unfold cutL
  rw [HT.sIx_none, HT.sIx_nat]
  simp
theorem enum_items {xs : List Val} : itemsOf .enum [.lst xs] cs = some (xs.zipIdx.map fun p => .tup [.int (p.2 : Nat), p.1]) := rfl
theorem chk_enum {xs : List Val} {cs : Cells} : chkOf .enum [.lst xs] (xs.zipIdx.map fun p => .tup [.int (p.2 : Nat), p.1]) cs = true := decide_eq_true rfl
theorem set_last {D D' : Cell} : (cs ++ [D]).set cs.length D' = cs ++ [D'] := by simp
theorem get_last {D : Cell} : (cs ++ [D])[cs.length]? = some D := by simp
/-- for k, cell in enumerate(script[:N] + [sum(script)]) -/
theorem cells_wp {cl : Cl} {body : List S} {i j N : Nat} {ns : List Int} {σ : Slots} {Q : Out → Cells → Prop} (I : Slots → Prop) (hn : ns.length ≤ 63) (h0 : σ[0]? = some (some (.fro (ns.map .int)))) (hI : I σ)
    (hb : ∀ (σ : Slots) (cs : Cells) (k c : Int), I σ → 0 ≤ k → k < 10 ^ 30 → Wp (exs cl body ((σ.set i (some (.int k))).set j (some (.int c))) cs) fun o _ => match o with
      | .nx σ' => I σ'
      | .ct σ' => I σ'
      | _ => False)
    (hq : ∀ σ cs, I σ → Q (.nx σ) cs) :
    Wp (ex cl (.for_ (.tp [(.nm i), (.nm j)]) .enum [(.bin .add (.slice (.var 0) (.const .non) (.const (.int N)) false true) (.lst [(.prim .sum [(.var 0)])]))] body) σ cs) Q := by
  rw [ex_for]
  have c12 : ∀ {cs : Cells}, sliceV (.fro (ns.map .int)) none (some (N : Int)) cs = .ok (.lst ((ns.map Val.int).take N)) cs := fun {cs} => cut_fro (k := N)
  have hadd : ∃ zs : List Int, zs.length ≤ 100 ∧ ∀ {cs : Cells}, binop .add (.lst ((ns.map Val.int).take N)) (.lst [.int ns.sum]) cs = .ok (.lst (zs.map .int)) cs := by
    refine ⟨ns.take N ++ [ns.sum], by simp; omega, fun {cs} => ?_⟩
    rw [b_addl (by rw [szl]; simp; omega)]
    simp
  obtain ⟨zs, hzl, ea⟩ := hadd
  have ee : evs cl [(.bin .add (.slice (.var 0) (.const .non) (.const (.int N)) false true) (.lst [(.prim .sum [(.var 0)])]))] σ cs = .ok [.lst (zs.map .int)] cs := by
    simp [h0, c12, sum_fro, ea]
  rw [ee]
  simp only [R.bind_ok, enum_items, R.of_some]
  apply for_wp (fun xs σ _ => (∀ x ∈ xs, ∃ k c : Int, x = .tup [.int k, .int c] ∧ 0 ≤ k ∧ k < 10 ^ 30) ∧ I σ)
  · refine ⟨?_, hI⟩
    intro x hx
    obtain ⟨p, hp, hpx⟩ := List.mem_map.mp hx
    obtain ⟨v, m⟩ := p
    have h2 := List.mem_zipIdx hp
    have hv : v ∈ zs.map Val.int := by
      rw [h2.2.2]
      exact List.getElem_mem _
    obtain ⟨c, _, hc⟩ := List.mem_map.mp hv
    refine ⟨m, c, ?_, by omega, ?_⟩
    · rw [← hpx, ← hc]
    · have h3 := h2.2.1
      rw [List.length_map] at h3
      omega
  · intro σ cs' h
    exact hq σ cs' h.2
  · intro x xs σ cs' h
    obtain ⟨k, c, rfl, k0, k1⟩ := h.1 x List.mem_cons_self
    show Wp (exs cl body ((σ.set i (some (.int k))).set j (some (.int c))) cs') _
    refine (hb σ cs' k c h.2 k0 k1).mono fun o cs2 ho => ?_
    cases o with
    | nx σ' => exact ⟨chk_enum, fun y hy => h.1 y (List.mem_cons_of_mem _ hy), ho⟩
    | ct σ' => exact ⟨chk_enum, fun y hy => h.1 y (List.mem_cons_of_mem _ hy), ho⟩
    | bk σ' => exact ho.elim
    | rt v => exact ho.elim
/-- a drawn fraction as a rational number -/
theorem frac_rat {a b : Int} (h : Frac a b) : ∃ q : Rat, Val.tup [.int a, .int b] = fv q ∧ Sz 103 q ∧ a = q.num ∧ b = q.den := by
  obtain ⟨h1, h2, h3, h4⟩ := h
  have hb : (b.toNat : Int) = b := by omega
  refine ⟨⟨a, b.toNat, by omega, ?_⟩, ?_, ⟨?_, ?_⟩, rfl, hb.symm⟩
  · show Nat.gcd a.natAbs b.toNat = 1
    rw [show b.toNat = b.natAbs by omega]
    exact h4
  · rw [fv_def, hb]
  · have : (10 : Nat) ^ 31 < 2 ^ 103 := by decide
    show a.natAbs < _
    omega
  · have : (10 : Nat) ^ 21 < 2 ^ 103 := by decide
    show b.toNat < _
    omega
theorem rat_frac (h1 : Has tb "_law_mixed" F__law_mixed) (h2 : Has tb "_law_digit" F__law_digit) (h3 : Has tb "_law_lowest" F__law_lowest) (h4 : Has tb "_law_fraction" F__law_fraction) {k n r : Nat} {D : Cell} {Q : Val → Cells → Prop} (hr : cs[r]? = some D) (hD : Good D (n + 5))
    (q : ∀ (p : Rat) (D' : Cell), Sz 103 p → Frac p.num p.den → Good D' n → Q (fv p) (cs.set r D')) : Wp (callAt tb (k + 3) "_law_fraction" [.ref r] cs) Q := by
  refine fraction_wp h1 h2 h3 h4 hr hD fun a b D' hf hg => ?_
  obtain ⟨p, e, hz, ha, hb⟩ := frac_rat hf
  rw [e]
  subst ha hb
  exact q p D' hz hf hg
end
end Ps

set_option maxHeartbeats 1000000
/-! PsDraw: comprehensions that draw. -/
namespace Ps
open PySem L2
section
variable {tb : List (Str × Fn)} {cs : Cells}
/-- a comprehension each of whose turns draws at most c digits -/
theorem lc_draw {chk : Cells → Bool} {F : Val → Cells → R (Option Val)} {P : Val → Prop} {c n : Nat} {D : Cell} {xs : List Val} {Q : List Val → Cells → Prop} (hc : ∀ D', chk (cs ++ [D']) = true) (hl : xs.length < 16777216) (hD : Good D (n + c * xs.length))
    (hF : ∀ x ∈ xs, ∀ D' m, Good D' (m + c) → Wp (F x (cs ++ [D'])) fun o cs' => ∃ v D2, o = some v ∧ P v ∧ noRef v = true ∧ cs' = cs ++ [D2] ∧ Good D2 m)
    (q : ∀ vs D', vs.length = xs.length → (∀ v ∈ vs, P v) → Good D' n → Q vs (cs ++ [D'])) : Wp (lcLoop chk F xs (cs ++ [D]) []) Q := by
  refine lc_wp (fun ys acc cs' => ∃ D', cs' = cs ++ [D'] ∧ Good D' (n + c * ys.length) ∧ (∀ v ∈ acc, P v) ∧ acc.length + ys.length = xs.length ∧ ∀ y ∈ ys, y ∈ xs) ⟨D, rfl, hD, by simp, by simp, fun _ h => h⟩ ?_ ?_
  · rintro acc cs' ⟨D', rfl, g, hp, hl, _⟩
    exact q acc D' (by simpa using hl) hp (g.less (by simp))
  · rintro x ys acc cs' ⟨D', rfl, g, hp, hl2, hm⟩
    refine (hF x (hm x List.mem_cons_self) D' (n + c * ys.length) (by simpa [Nat.mul_add, Nat.add_assoc] using g)).mono ?_
    rintro o cs'' ⟨v, D2, rfl, pv, nv, rfl, g2⟩
    rw [List.length_cons] at hl2
    refine ⟨hc _, nv, by rw [szl]; omega, D2, rfl, g2, ?_, by simp; omega, fun y hy => hm y (List.mem_cons_of_mem _ hy)⟩
    intro w hw
    rcases List.mem_append.mp hw with hw | hw
    · exact hp w hw
    · rw [List.mem_singleton.mp hw]; exact pv
theorem all_fv {vs : List Val} {n : Nat} (h : ∀ v ∈ vs, ∃ p : Rat, v = fv p ∧ Sz n p) : ∃ qs : List Rat, vs = qs.map fv ∧ ∀ q ∈ qs, Sz n q := by
  induction vs with
  | nil => exact ⟨[], rfl, by simp⟩
  | cons v vs ih =>
    obtain ⟨qs, rfl, hq⟩ := ih fun w hw => h w (List.mem_cons_of_mem _ hw)
    obtain ⟨p, rfl, hp⟩ := h v List.mem_cons_self
    exact ⟨p :: qs, rfl, fun q hq' => by rcases List.mem_cons.mp hq' with rfl | h2; exact hp; exact hq q h2⟩
theorem rng1_items {m : Int} (h : 0 ≤ m ∧ m < 10 ^ 10) : ∃ xs : List Val, (xs.length : Int) = m ∧ ∀ cs : Cells, itemsOf .rng1 [.int m] cs = some xs :=
  ⟨(List.range m.toNat).map fun i => .int ((0 : Int) + (i : Nat)), by simp; omega, fun cs => if_pos (by omega)⟩
end
end Ps

set_option maxHeartbeats 1000000
/-! PsWord: names that are drawn. -/
namespace Ps
open PySem L2
def F__law_word : Fn := ⟨1, 4,
  [(.asg (.nm 1) (.lcomp (.ix (.const (.str "abcdefghijklmnopqrstuvwxyz")) (.call "_law_digit" [(.var 0), (.const (.int (26)))] [.inl 0, .inl 1])) (.nm 3) .rng1 [(.bin .add (.const (.int (1))) (.call "_law_digit" [(.var 0), (.const (.int (8)))] [.inl 0, .inl 1]))] [] [3])),
   (.asg (.nm 2) (.lst [(.smeth .join (.const (.str "")) [(.var 1)]), (.smeth .join (.const (.str "")) [(.slice (.var 1) (.const .non) (.const (.int (2))) false true)]), (.const (.str "a")), (.const (.str "b")), (.const (.str "x")), (.const (.str "y")), (.const (.str "at")), (.const (.str "as")), (.const (.str "place")), (.const (.str "say")), (.const (.str "draw")), (.const (.str "level")), (.const (.str "work"))])),
   (.ret (.ix (.var 2) (.call "_law_digit" [(.var 0), (.const (.int (13)))] [.inl 0, .inl 1])))]⟩
/-- a name -/
def Nm (l : List Nat) : Prop := 1 ≤ l.length ∧ l.length ≤ 8 ∧ ∀ c ∈ l, 97 ≤ c ∧ c ≤ 122
theorem nil_join : ∀ ls : List (List Nat), TL.joinL [] ls = ls.flatten
  | [] => rfl
  | [q] => by simp [TL.joinL]
  | q :: r :: ls => by
    have := nil_join (r :: ls)
    simp only [TL.joinL, this]
    simp
section
variable {tb : List (Str × Fn)} {cs : Cells}
theorem chars_join {W : List Nat} (h : W.length ≤ 100) : smethV .join "" [.lst (W.map fun c => .str ⟨⟨[c]⟩⟩)] cs = .ok (.str ⟨⟨W⟩⟩) cs := by
  have e1 : strsOf (W.map fun c => Val.str ⟨⟨[c]⟩⟩) = some (W.map fun c => (⟨⟨[c]⟩⟩ : Str)) := by
    clear h
    induction W with
    | nil => rfl
    | cons c W ih => simp [strsOf, ih]
  have l0 : (Str.ofString "").length = 0 := by decide +kernel
  have l1 : ((W.map fun c => (⟨⟨[c]⟩⟩ : Str)).map (·.length)).sum = W.length := by
    clear h e1
    induction W with
    | nil => rfl
    | cons c W ih =>
      simp only [List.map_cons, List.sum_cons, List.length_cons, ih]
      show 1 + W.length = _
      omega
  show (R.of ((some (W.map fun c => Val.str ⟨⟨[c]⟩⟩)).bind strsOf) cs).bind _ = _
  rw [Option.bind_some, e1, R.of_some, R.bind_ok, if_pos (by rw [l1, l0]; omega)]
  congr 2
  apply TL.ext_tl
  rw [TL.join_eq, TL.tl_join]
  have e0 : TL.tl (Str.ofString "") = [] := by decide +kernel
  rw [e0, nil_join]
  show ((W.map fun c => (⟨⟨[c]⟩⟩ : Str)).map TL.tl).flatten = W
  clear h e1 l1
  induction W with
  | nil => rfl
  | cons c W ih => rw [List.map_cons, List.map_cons, List.flatten_cons, ih]; rfl
/-- a comprehension each of whose turns draws at most c digits, the state anywhere -/
theorem lc_drawR {chk : Cells → Bool} {F : Val → Cells → R (Option Val)} {P : Val → Prop} {c n r : Nat} {D : Cell} {xs : List Val} {Q : List Val → Cells → Prop} (hr : cs[r]? = some D) (hc : ∀ D', chk (cs.set r D') = true) (hl : xs.length < 16777216) (hD : Good D (n + c * xs.length))
    (hF : ∀ x ∈ xs, ∀ D' m, Good D' (m + c) → Wp (F x (cs.set r D')) fun o cs' => ∃ v D2, o = some v ∧ P v ∧ noRef v = true ∧ cs' = cs.set r D2 ∧ Good D2 m)
    (q : ∀ vs D', vs.length = xs.length → (∀ v ∈ vs, P v) → Good D' n → Q vs (cs.set r D')) : Wp (lcLoop chk F xs cs []) Q := by
  have e0 : cs = cs.set r D := by
    apply List.ext_getElem?
    intro j
    by_cases e : r = j
    · subst e; rw [List.getElem?_set_self (List.getElem?_eq_some_iff.mp hr).1, hr]
    · rw [List.getElem?_set_ne e]
  refine lc_wp (fun ys acc cs' => ∃ D', cs' = cs.set r D' ∧ Good D' (n + c * ys.length) ∧ (∀ v ∈ acc, P v) ∧ acc.length + ys.length = xs.length ∧ ∀ y ∈ ys, y ∈ xs) ⟨D, e0, hD, by simp, by simp, fun _ h => h⟩ ?_ ?_
  · rintro acc cs' ⟨D', rfl, g, hp, hl, _⟩
    exact q acc D' (by simpa using hl) hp (g.less (by simp))
  · rintro x ys acc cs' ⟨D', rfl, g, hp, hl2, hm⟩
    refine (hF x (hm x List.mem_cons_self) D' (n + c * ys.length) (by simpa [Nat.mul_add, Nat.add_assoc] using g)).mono ?_
    rintro o cs'' ⟨v, D2, rfl, pv, nv, rfl, g2⟩
    rw [List.length_cons] at hl2
    refine ⟨hc _, nv, by rw [szl]; omega, D2, rfl, g2, ?_, by simp; omega, fun y hy => hm y (List.mem_cons_of_mem _ hy)⟩
    intro w hw
    rcases List.mem_append.mp hw with hw | hw
    · exact hp w hw
    · rw [List.mem_singleton.mp hw]; exact pv
theorem abc_ix {i : Int} (h0 : 0 ≤ i) (h1 : i < 26) : ∃ c : Nat, 97 ≤ c ∧ c ≤ 122 ∧ ∀ cs : Cells, ixV (.str "abcdefghijklmnopqrstuvwxyz") (.int i) cs = .ok (.str ⟨⟨[c]⟩⟩) cs := by
  have e : (Str.ofString "abcdefghijklmnopqrstuvwxyz") = ⟨⟨(List.range 26).map (97 + ·)⟩⟩ := by decide +kernel
  obtain ⟨n, rfl⟩ : ∃ n : Nat, i = n := ⟨i.toNat, by omega⟩
  have hn : n < 26 := by omega
  refine ⟨97 + n, by omega, by omega, fun cs => ?_⟩
  rw [e]
  exact ix_str (by rw [szl]; simp) (by rw [atI_at (by simpa using hn), List.getElem?_map, List.getElem?_range hn]; rfl)
def e_signs : E := (.lcomp (.ix (.const (.str "abcdefghijklmnopqrstuvwxyz")) (.call "_law_digit" [(.var 0), (.const (.int (26)))] [.inl 0, .inl 1])) (.nm 3) .rng1 [(.bin .add (.const (.int (1))) (.call "_law_digit" [(.var 0), (.const (.int (8)))] [.inl 0, .inl 1]))] [] [3])
theorem all_chars : ∀ {vs : List Val}, (∀ v ∈ vs, ∃ c : Nat, 97 ≤ c ∧ c ≤ 122 ∧ v = .str ⟨⟨[c]⟩⟩) → ∃ l : List Nat, vs = (l.map fun c => .str ⟨⟨[c]⟩⟩) ∧ ∀ c ∈ l, 97 ≤ c ∧ c ≤ 122
  | [], _ => ⟨[], rfl, by simp⟩
  | v :: vs, h => by
    obtain ⟨l, rfl, hl⟩ := all_chars fun w hw => h w (List.mem_cons_of_mem _ hw)
    obtain ⟨c, c1, c2, rfl⟩ := h v List.mem_cons_self
    exact ⟨c :: l, rfl, fun d hd => by rcases List.mem_cons.mp hd with rfl | hd; exact ⟨c1, c2⟩; exact hl d hd⟩
theorem signs_wp (h1 : Has tb "_law_mixed" F__law_mixed) (h2 : Has tb "_law_digit" F__law_digit) {k n r : Nat} {D : Cell} {a1 a2 a3 : Option Val} {Q : Val → Cells → Prop} (hr : cs[r]? = some D) (hD : Good D (n + 9))
    (q : ∀ (l : List Nat) (D' : Cell), Nm l → Good D' n → Q (.lst (l.map fun c => .str ⟨⟨[c]⟩⟩)) (cs.set r D')) : Wp (ev (callAt tb (k + 2)) e_signs [some (.ref r), a1, a2, a3] cs) Q := by
  have hlt : r < cs.length := (List.getElem?_eq_some_iff.mp hr).1
  have at_ : ∀ D', (cs.set r D')[r]? = some D' := fun D' => by simp [hlt]
  unfold e_signs
  rw [ev_lcomp]
  simp
  refine digit_wp h1 h2 hr (n := n + 8) hD (by decide) fun m D1 m0 m1 g1 => ?_
  obtain ⟨xs, hx, hi⟩ := rng1_items (m := 1 + m) (by omega)
  simp [hi]
  refine lc_drawR (P := fun v => ∃ c : Nat, 97 ≤ c ∧ c ≤ 122 ∧ v = .str ⟨⟨[c]⟩⟩) (c := 1) (n := n) (at_ D1) (fun D' => decide_eq_true (hi _)) (by omega) (g1.less (by omega)) ?_ ?_
  · intro x hx D' m g
    rw [List.set_set]
    have key : Wp (callAt tb (k + 2) "_law_digit" [.ref r, .int 26] (cs.set r D')) fun v cs'' => ∃ (i : Int) (D2 : Cell), v = .int i ∧ 0 ≤ i ∧ i < 26 ∧ cs'' = cs.set r D2 ∧ Good D2 m := by
      refine digit_wp h1 h2 (at_ D') g (by decide) fun i D2 i0 i1 g2 => ?_
      rw [List.set_set]
      exact ⟨i, D2, rfl, i0, i1, rfl, g2⟩
    obtain ⟨v, cs'', e, i, D2, rfl, i0, i1, rfl, g2⟩ := key.ex
    obtain ⟨c, c1, c2, ec⟩ := abc_ix i0 i1
    simp [lcStep, wipeS, e, ec]
    exact ⟨⟨c1, c2⟩, D2, rfl, g2⟩
  · intro vs D' hl hp g
    rw [List.set_set]
    obtain ⟨l, rfl, hc⟩ := all_chars hp
    rw [List.length_map] at hl
    exact q l D' ⟨by omega, by omega, hc⟩ g
def words13 : List Str := ["a", "b", "x", "y", "at", "as", "place", "say", "draw", "level", "work"]
theorem Nm.take {l : List Nat} (h : Nm l) : Nm (l.take 2) := ⟨by have := h.1; simp; omega, by have := h.2.1; simp; omega, fun c hc => h.2.2 c (List.mem_of_mem_take hc)⟩
theorem words_nm : ∀ w ∈ words13, ∃ l, w = ⟨⟨l⟩⟩ ∧ Nm l := by
  intro w hw
  have key : words13.all (fun w => decide (1 ≤ w.cps.toList.length) && (decide (w.cps.toList.length ≤ 8) && w.cps.toList.all fun c => decide (97 ≤ c) && decide (c ≤ 122))) = true := by decide +kernel
  have z := List.all_eq_true.mp key w hw
  simp only [Bool.and_eq_true, decide_eq_true_eq, List.all_eq_true] at z
  exact ⟨w.cps.toList, rfl, z.1, z.2.1, fun c hc => z.2.2 c hc⟩
theorem word_wp (h1 : Has tb "_law_mixed" F__law_mixed) (h2 : Has tb "_law_digit" F__law_digit) (h3 : Has tb "_law_word" F__law_word) {k n r : Nat} {D : Cell} {Q : Val → Cells → Prop} (hr : cs[r]? = some D) (hD : Good D (n + 10))
    (q : ∀ (l : List Nat) (D' : Cell), Nm l → Good D' n → Q (.str ⟨⟨l⟩⟩) (cs.set r D')) : Wp (callAt tb (k + 3) "_law_word" [.ref r] cs) Q := by
  have hlt : r < cs.length := (List.getElem?_eq_some_iff.mp hr).1
  have at_ : ∀ D', (cs.set r D')[r]? = some D' := fun D' => by simp [hlt]
  refine call_wp h3 rfl ?_
  rw [show F__law_word.body = (.asg (.nm 1) e_signs) :: F__law_word.body.drop 1 from rfl, exs_cons, wp_bind, ex_asg, wp_bind]
  refine signs_wp h1 h2 (n := n + 1) hr hD fun l D1 hl g1 => ?_
  have j1 : ∀ cs : Cells, smethV .join "" [.lst (l.map fun c => .str ⟨⟨[c]⟩⟩)] cs = .ok (.str ⟨⟨l⟩⟩) cs := fun cs => chars_join (by have := hl.2.1; omega)
  have j2 : ∀ cs : Cells, smethV .join "" [.lst ((l.map fun c => .str ⟨⟨[c]⟩⟩).take 2)] cs = .ok (.str ⟨⟨l.take 2⟩⟩) cs := fun cs => by
    rw [← List.map_take]
    exact chars_join (by have := hl.2.1; simp; omega)
  have sl : ∀ cs : Cells, sliceV (.lst (l.map fun c => .str ⟨⟨[c]⟩⟩)) none (some 2) cs = .ok (.lst ((l.take 2).map fun c => .str ⟨⟨[c]⟩⟩)) cs := fun cs => by
    show R.ok (Val.lst (cutL (l.map fun c => .str ⟨⟨[c]⟩⟩) none (some ((2 : Nat) : Int)))) cs = _
    unfold cutL
    rw [HT.sIx_none, HT.sIx_nat]
    congr 2
    simp [List.map_take]
  have o1 : optI false .non = some none := rfl
  have o2 : optI true (.int 2) = some (some 2) := rfl
  simp [F__law_word, j1, j2, sl, o1, o2]
  refine digit_wp h1 h2 (at_ D1) (n := n) g1 (by decide) fun i D2 i0 i1 g2 => ?_
  obtain ⟨m, rfl⟩ : ∃ m : Nat, i = m := ⟨i.toNat, by omega⟩
  have hm : m < 13 := by omega
  have key : ∃ l', Nm l' ∧ L2.atI (Val.str ⟨⟨l⟩⟩ :: Val.str ⟨⟨l.take 2⟩⟩ :: words13.map Val.str) (m : Int) = some (.str ⟨⟨l'⟩⟩) := by
    rw [atI_at (by simpa [words13] using hm)]
    match m, hm with
    | 0, _ => exact ⟨l, hl, rfl⟩
    | 1, _ => exact ⟨l.take 2, hl.take, rfl⟩
    | m + 2, hm =>
      have hm' : m < words13.length := by simp [words13]; omega
      obtain ⟨l', e, hl'⟩ := words_nm words13[m] (List.getElem_mem _)
      refine ⟨l', hl', ?_⟩
      simp [hm', ← e]
  obtain ⟨l', hl', e⟩ := key
  simp only [words13, List.map_cons, List.map_nil] at e
  simp [e]
  exact q l' D2 hl' g2
end
end Ps

set_option maxHeartbeats 1000000
/-! PsEq: == of values without truths is equality; of any data with itself it is true. -/
namespace Ps
open PySem
mutual
/-- None, whole numbers, texts, and tuples and lists of these -/
def plV : Val → Bool
  | .non => true
  | .int _ => true
  | .str x => PyData.strOk x
  | .tup xs => plVs xs
  | .lst xs => plVs xs
  | _ => false
def plVs : List Val → Bool
  | [] => true
  | v :: vs => plV v && plVs vs
end
mutual
/-- these, and truths, and the script -/
def qV : Val → Bool
  | .non => true
  | .bl _ => true
  | .int _ => true
  | .str x => PyData.strOk x
  | .tup xs => qVs xs
  | .lst xs => qVs xs
  | .fro xs => qVs xs
  | _ => false
def qVs : List Val → Bool
  | [] => true
  | v :: vs => qV v && qVs vs
end
mutual
def dpV : Val → Nat
  | .tup xs => 1 + dpVs xs
  | .lst xs => 1 + dpVs xs
  | .fro xs => 1 + dpVs xs
  | _ => 0
def dpVs : List Val → Nat
  | [] => 0
  | v :: vs => max (dpV v) (dpVs vs)
end
mutual
theorem q_dat : ∀ {v : Val}, qV v = true → ∃ d, datOf v = some d ∧ d.canLay0 = true ∧ d.depth = dpV v ∧ PyData.eqv d d = true
  | .non, _ => ⟨_, rfl, rfl, rfl, rfl⟩
  | .bl b, _ => ⟨_, rfl, rfl, rfl, by simp [PyData.eqv]⟩
  | .int i, _ => ⟨_, rfl, rfl, rfl, by simp [PyData.eqv]⟩
  | .str x, h => ⟨_, rfl, h, rfl, by simp [PyData.eqv]⟩
  | .tup xs, h => by
    obtain ⟨ds, h1, h2, h3, h4⟩ := q_dats (vs := xs) h
    exact ⟨.tuple ds, by simp [datOf, h1], h2, by simp [PyData.depth, dpV, h3, Nat.add_comm], by simpa [PyData.eqv] using h4⟩
  | .lst xs, h => by
    obtain ⟨ds, h1, h2, h3, h4⟩ := q_dats (vs := xs) h
    exact ⟨.list ds, by simp [datOf, h1], h2, by simp [PyData.depth, dpV, h3, Nat.add_comm], by simpa [PyData.eqv] using h4⟩
  | .fro xs, h => by
    obtain ⟨ds, h1, h2, h3, h4⟩ := q_dats (vs := xs) h
    exact ⟨.list ds, by simp [datOf, h1], h2, by simp [PyData.depth, dpV, h3, Nat.add_comm], by simpa [PyData.eqv] using h4⟩
  | .emp, h => by cases h
  | .ref _, h => by cases h
  | .fn _, h => by cases h
  | .ty _, h => by cases h
  | .exc _ _ _, h => by cases h
theorem q_dats : ∀ {vs : List Val}, qVs vs = true → ∃ ds, datsOf vs = some ds ∧ PyData.canLayAll0 ds = true ∧ PyData.depthAll ds = dpVs vs ∧ PyData.eqvAll ds ds = true
  | [], _ => ⟨[], rfl, rfl, rfl, rfl⟩
  | v :: vs, h => by
    rw [qVs, Bool.and_eq_true] at h
    obtain ⟨d, h1, h2, h3, h4⟩ := q_dat h.1
    obtain ⟨ds, k1, k2, k3, k4⟩ := q_dats h.2
    exact ⟨d :: ds, by simp [datsOf, h1, k1], by simp [PyData.canLayAll0, h2, k2], by simp [PyData.depthAll, dpVs, h3, k3], by simp [PyData.eqvAll, h4, k4]⟩
end
mutual
theorem pl_q : ∀ {v : Val}, plV v = true → qV v = true
  | .non, _ => rfl
  | .int i, _ => rfl
  | .str x, h => h
  | .tup xs, h => pls_q (vs := xs) h
  | .lst xs, h => pls_q (vs := xs) h
  | .fro _, h => by cases h
  | .bl _, h => by cases h
  | .emp, h => by cases h
  | .ref _, h => by cases h
  | .fn _, h => by cases h
  | .ty _, h => by cases h
  | .exc _ _ _, h => by cases h
theorem pls_q : ∀ {vs : List Val}, plVs vs = true → qVs vs = true
  | [], _ => rfl
  | v :: vs, h => by
    rw [plVs, Bool.and_eq_true] at h
    rw [qVs, pl_q h.1, pls_q h.2]; rfl
end
theorem dat_kind {v : Val} {d : PyData} (h : datOf v = some d) : (match v, d with
    | .non, .none => True
    | .bl a, .bool b => a = b
    | .int i, .int j => i = j
    | .str x, .str y => x = y
    | .tup xs, .tuple ds => datsOf xs = some ds
    | .lst xs, .list ds => datsOf xs = some ds
    | .fro xs, .list ds => datsOf xs = some ds
    | _, _ => False) := by
  cases v with
  | tup xs => simp only [datOf, Option.map_eq_some_iff] at h; obtain ⟨ds, h1, rfl⟩ := h; exact h1
  | lst xs => simp only [datOf, Option.map_eq_some_iff] at h; obtain ⟨ds, h1, rfl⟩ := h; exact h1
  | fro xs => simp only [datOf, Option.map_eq_some_iff] at h; obtain ⟨ds, h1, rfl⟩ := h; exact h1
  | _ => simp [datOf] at h <;> subst h <;> first | trivial | rfl
theorem beq_dec {α : Type} [BEq α] [LawfulBEq α] [DecidableEq α] {a b : α} : (a == b) = decide (a = b) := by
  by_cases h : a = b
  · subst h; simp
  · simp [h]
mutual
theorem pl_eqv : ∀ {v w : Val} {d e : PyData}, plV v = true → plV w = true → datOf v = some d → datOf w = some e → PyData.eqv d e = decide (v = w)
  | v, w, d, e, hv, hw, h1, h2 => by
    have k1 := dat_kind h1
    have k2 := dat_kind h2
    cases v <;> first | (cases hv; done) | skip
    all_goals (cases w <;> first | (cases hw; done) | skip)
    all_goals (cases d <;> first | (cases k1; done) | skip)
    all_goals (cases e <;> first | (cases k2; done) | skip)
    all_goals (try (simp [PyData.eqv]; done))
    · dsimp only at k1 k2; subst k1 k2; simp [PyData.eqv]; exact beq_dec
    · dsimp only at k1 k2; subst k1 k2; simp [PyData.eqv]; exact beq_dec
    · rw [PyData.eqv, pls_eqv hv hw k1 k2]; simp
    · rw [PyData.eqv, pls_eqv hv hw k1 k2]; simp
theorem pls_eqv : ∀ {vs ws : List Val} {ds es : List PyData}, plVs vs = true → plVs ws = true → datsOf vs = some ds → datsOf ws = some es → PyData.eqvAll ds es = decide (vs = ws)
  | [], [], ds, es, _, _, h1, h2 => by cases h1; cases h2; rfl
  | [], w :: ws, ds, es, _, _, h1, h2 => by
    cases h1
    simp only [datsOf] at h2
    split at h2
    · cases h2; rfl
    · cases h2
  | v :: vs, [], ds, es, _, _, h1, h2 => by
    cases h2
    simp only [datsOf] at h1
    split at h1
    · cases h1; rfl
    · cases h1
  | v :: vs, w :: ws, ds, es, hv, hw, h1, h2 => by
    rw [plVs, Bool.and_eq_true] at hv hw
    simp only [datsOf] at h1 h2
    split at h1
    · rename_i d ds' a1 a2
      split at h2
      · rename_i e es' b1 b2
        cases h1; cases h2
        rw [PyData.eqvAll, pl_eqv hv.1 hw.1 a1 b1, pls_eqv hv.2 hw.2 a2 b2]
        by_cases g1 : v = w <;> by_cases g2 : vs = ws <;> simp [g1, g2]
      · cases h2
    · cases h1
end
section
variable {cs : Cells}
theorem datAt_q {v : Val} (h : qV v = true) : datAt cs v = datOf v := by
  cases v <;> first | rfl | cases h
theorem eq_same {v : Val} (h : qV v = true) (hd : dpV v ≤ 64) : eqVal cs v v = some true := by
  obtain ⟨d, h1, h2, h3, h4⟩ := q_dat h
  unfold eqVal
  cases q : eqStr v v with
  | some b =>
    cases v <;> simp [eqStr] at q
    simp [← q]
  | none =>
    simp only [datAt_q h, h1]
    have hs : SeqAt.shaped d = true := by simp [SeqAt.shaped, h2, h3, hd]
    simp [hs, h4]
theorem eq_pl {v w : Val} (hv : plV v = true) (hw : plV w = true) (d1 : dpV v ≤ 64) (d2 : dpV w ≤ 64) : eqVal cs v w = some (decide (v = w)) := by
  obtain ⟨d, h1, h2, h3, h4⟩ := q_dat (pl_q hv)
  obtain ⟨e, k1, k2, k3, k4⟩ := q_dat (pl_q hw)
  unfold eqVal
  cases q : eqStr v w with
  | some b =>
    cases v <;> cases w <;> simp [eqStr] at q
    simp [← q]
  | none =>
    simp only [datAt_q (pl_q hv), datAt_q (pl_q hw), h1, k1]
    have hs : SeqAt.shaped d = true := by simp [SeqAt.shaped, h2, h3, d1]
    have hs2 : SeqAt.shaped e = true := by simp [SeqAt.shaped, k2, k3, d2]
    simp [hs, hs2, pl_eqv hv hw h1 k1]
/-- a comprehension over a list that stands -/
theorem lc_lst {cl : Cl} {elt e : E} {tg : Tg} {ifs : List E} {own : List Nat} {σ : Slots} {xs : List Val} (g : Val → Val) (he : ev cl e σ cs = .ok (.lst xs) cs) (h : ∀ v ∈ xs, lcStep cl elt tg ifs own σ v cs = .ok (some (g v)) cs) (hn : ∀ v ∈ xs, noRef (g v) = true) (hl : xs.length ≤ sizeLine) :
    ev cl (.lcomp elt tg .val [e] ifs own) σ cs = .ok (.lst (xs.map g)) cs := by
  rw [ev_lcomp]
  have it : itemsOf .val [.lst xs] cs = some xs := rfl
  have ck : ∀ cs' : Cells, chkOf .val [.lst xs] xs cs' = true := fun _ => decide_eq_true rfl
  simp only [evs_cons, evs_nil, he, R.bind_ok, it, R.of_some]
  have key := lc_map (cs := cs) (chk := chkOf .val [.lst xs] xs) (F := lcStep cl elt tg ifs own σ) (fun v => v) g (ck cs) xs h hn hl
  rw [List.map_id'] at key
  rw [key]
  rfl
end
end Ps

set_option maxHeartbeats 4000000
/-! K05La: refusals made by hand. -/
namespace K05L
open PySem L2 Ps
def F__law_kinds : Fn := ⟨1, 4,
  [(.asg (.nm 1) (.lst [(.tup [(.const (.str "row")), (.isExc (.var 0) [("BadRow", true), ("BadSketch", false), ("BadBlock", false), ("BadOutline", false), ("BadFeature", false), ("BadField", false), ("BadTools", false), ("BadWay", false), ("BadPaper", false), ("Clash", false), ("Twice", false), ("OutOfPlace", false), ("TooGreat", false), ("NoPoint", false), ("NoSaying", false), ("NoFeature", false), ("NoTool", false), ("Nothing", false), ("NoToolThere", false), ("Lifted", false), ("Lowered", false), ("Beyond", false), ("Blocked", false), ("TooDeep", false)])]), (.tup [(.const (.str "sketch")), (.isExc (.var 0) [("BadRow", false), ("BadSketch", true), ("BadBlock", false), ("BadOutline", false), ("BadFeature", false), ("BadField", false), ("BadTools", false), ("BadWay", false), ("BadPaper", false), ("Clash", false), ("Twice", false), ("OutOfPlace", false), ("TooGreat", false), ("NoPoint", false), ("NoSaying", false), ("NoFeature", false), ("NoTool", false), ("Nothing", false), ("NoToolThere", false), ("Lifted", false), ("Lowered", false), ("Beyond", false), ("Blocked", false), ("TooDeep", false)])])])),
   (.asg (.nm 1) (.bin .add (.var 1) (.lst [(.tup [(.const (.str "block")), (.isExc (.var 0) [("BadRow", false), ("BadSketch", false), ("BadBlock", true), ("BadOutline", false), ("BadFeature", false), ("BadField", false), ("BadTools", false), ("BadWay", false), ("BadPaper", false), ("Clash", false), ("Twice", false), ("OutOfPlace", false), ("TooGreat", false), ("NoPoint", false), ("NoSaying", false), ("NoFeature", false), ("NoTool", false), ("Nothing", false), ("NoToolThere", false), ("Lifted", false), ("Lowered", false), ("Beyond", false), ("Blocked", false), ("TooDeep", false)])]), (.tup [(.const (.str "outline")), (.isExc (.var 0) [("BadRow", false), ("BadSketch", false), ("BadBlock", false), ("BadOutline", true), ("BadFeature", false), ("BadField", false), ("BadTools", false), ("BadWay", false), ("BadPaper", false), ("Clash", false), ("Twice", false), ("OutOfPlace", false), ("TooGreat", false), ("NoPoint", false), ("NoSaying", false), ("NoFeature", false), ("NoTool", false), ("Nothing", false), ("NoToolThere", false), ("Lifted", false), ("Lowered", false), ("Beyond", false), ("Blocked", false), ("TooDeep", false)])])]))),
   (.asg (.nm 1) (.bin .add (.var 1) (.lst [(.tup [(.const (.str "feature")), (.isExc (.var 0) [("BadRow", false), ("BadSketch", false), ("BadBlock", false), ("BadOutline", false), ("BadFeature", true), ("BadField", false), ("BadTools", false), ("BadWay", false), ("BadPaper", false), ("Clash", false), ("Twice", false), ("OutOfPlace", false), ("TooGreat", false), ("NoPoint", false), ("NoSaying", false), ("NoFeature", false), ("NoTool", false), ("Nothing", false), ("NoToolThere", false), ("Lifted", false), ("Lowered", false), ("Beyond", false), ("Blocked", false), ("TooDeep", false)])]), (.tup [(.const (.str "field")), (.isExc (.var 0) [("BadRow", false), ("BadSketch", false), ("BadBlock", false), ("BadOutline", false), ("BadFeature", false), ("BadField", true), ("BadTools", false), ("BadWay", false), ("BadPaper", false), ("Clash", false), ("Twice", false), ("OutOfPlace", false), ("TooGreat", false), ("NoPoint", false), ("NoSaying", false), ("NoFeature", false), ("NoTool", false), ("Nothing", false), ("NoToolThere", false), ("Lifted", false), ("Lowered", false), ("Beyond", false), ("Blocked", false), ("TooDeep", false)])])]))),
   (.asg (.nm 1) (.bin .add (.var 1) (.lst [(.tup [(.const (.str "tools")), (.isExc (.var 0) [("BadRow", false), ("BadSketch", false), ("BadBlock", false), ("BadOutline", false), ("BadFeature", false), ("BadField", false), ("BadTools", true), ("BadWay", false), ("BadPaper", false), ("Clash", false), ("Twice", false), ("OutOfPlace", false), ("TooGreat", false), ("NoPoint", false), ("NoSaying", false), ("NoFeature", false), ("NoTool", false), ("Nothing", false), ("NoToolThere", false), ("Lifted", false), ("Lowered", false), ("Beyond", false), ("Blocked", false), ("TooDeep", false)])]), (.tup [(.const (.str "way")), (.isExc (.var 0) [("BadRow", false), ("BadSketch", false), ("BadBlock", false), ("BadOutline", false), ("BadFeature", false), ("BadField", false), ("BadTools", false), ("BadWay", true), ("BadPaper", false), ("Clash", false), ("Twice", false), ("OutOfPlace", false), ("TooGreat", false), ("NoPoint", false), ("NoSaying", false), ("NoFeature", false), ("NoTool", false), ("Nothing", false), ("NoToolThere", false), ("Lifted", false), ("Lowered", false), ("Beyond", false), ("Blocked", false), ("TooDeep", false)])])]))),
   (.asg (.nm 1) (.bin .add (.var 1) (.lst [(.tup [(.const (.str "paper")), (.isExc (.var 0) [("BadRow", false), ("BadSketch", false), ("BadBlock", false), ("BadOutline", false), ("BadFeature", false), ("BadField", false), ("BadTools", false), ("BadWay", false), ("BadPaper", true), ("Clash", false), ("Twice", false), ("OutOfPlace", false), ("TooGreat", false), ("NoPoint", false), ("NoSaying", false), ("NoFeature", false), ("NoTool", false), ("Nothing", false), ("NoToolThere", false), ("Lifted", false), ("Lowered", false), ("Beyond", false), ("Blocked", false), ("TooDeep", false)])]), (.tup [(.const (.str "clash")), (.isExc (.var 0) [("BadRow", false), ("BadSketch", false), ("BadBlock", false), ("BadOutline", false), ("BadFeature", false), ("BadField", false), ("BadTools", false), ("BadWay", false), ("BadPaper", false), ("Clash", true), ("Twice", false), ("OutOfPlace", false), ("TooGreat", false), ("NoPoint", false), ("NoSaying", false), ("NoFeature", false), ("NoTool", false), ("Nothing", false), ("NoToolThere", false), ("Lifted", false), ("Lowered", false), ("Beyond", false), ("Blocked", false), ("TooDeep", false)])])]))),
   (.asg (.nm 1) (.bin .add (.var 1) (.lst [(.tup [(.const (.str "twice")), (.isExc (.var 0) [("BadRow", false), ("BadSketch", false), ("BadBlock", false), ("BadOutline", false), ("BadFeature", false), ("BadField", false), ("BadTools", false), ("BadWay", false), ("BadPaper", false), ("Clash", false), ("Twice", true), ("OutOfPlace", false), ("TooGreat", false), ("NoPoint", false), ("NoSaying", false), ("NoFeature", false), ("NoTool", false), ("Nothing", false), ("NoToolThere", false), ("Lifted", false), ("Lowered", false), ("Beyond", false), ("Blocked", false), ("TooDeep", false)])]), (.tup [(.const (.str "place")), (.isExc (.var 0) [("BadRow", false), ("BadSketch", false), ("BadBlock", false), ("BadOutline", false), ("BadFeature", false), ("BadField", false), ("BadTools", false), ("BadWay", false), ("BadPaper", false), ("Clash", false), ("Twice", false), ("OutOfPlace", true), ("TooGreat", false), ("NoPoint", false), ("NoSaying", false), ("NoFeature", false), ("NoTool", false), ("Nothing", false), ("NoToolThere", false), ("Lifted", false), ("Lowered", false), ("Beyond", false), ("Blocked", false), ("TooDeep", false)])])]))),
   (.asg (.nm 1) (.bin .add (.var 1) (.lst [(.tup [(.const (.str "great")), (.isExc (.var 0) [("BadRow", false), ("BadSketch", false), ("BadBlock", false), ("BadOutline", false), ("BadFeature", false), ("BadField", false), ("BadTools", false), ("BadWay", false), ("BadPaper", false), ("Clash", false), ("Twice", false), ("OutOfPlace", false), ("TooGreat", true), ("NoPoint", false), ("NoSaying", false), ("NoFeature", false), ("NoTool", false), ("Nothing", false), ("NoToolThere", false), ("Lifted", false), ("Lowered", false), ("Beyond", false), ("Blocked", false), ("TooDeep", false)])]), (.tup [(.const (.str "point")), (.isExc (.var 0) [("BadRow", false), ("BadSketch", false), ("BadBlock", false), ("BadOutline", false), ("BadFeature", false), ("BadField", false), ("BadTools", false), ("BadWay", false), ("BadPaper", false), ("Clash", false), ("Twice", false), ("OutOfPlace", false), ("TooGreat", false), ("NoPoint", true), ("NoSaying", false), ("NoFeature", false), ("NoTool", false), ("Nothing", false), ("NoToolThere", false), ("Lifted", false), ("Lowered", false), ("Beyond", false), ("Blocked", false), ("TooDeep", false)])])]))),
   (.asg (.nm 1) (.bin .add (.var 1) (.lst [(.tup [(.const (.str "saying")), (.isExc (.var 0) [("BadRow", false), ("BadSketch", false), ("BadBlock", false), ("BadOutline", false), ("BadFeature", false), ("BadField", false), ("BadTools", false), ("BadWay", false), ("BadPaper", false), ("Clash", false), ("Twice", false), ("OutOfPlace", false), ("TooGreat", false), ("NoPoint", false), ("NoSaying", true), ("NoFeature", false), ("NoTool", false), ("Nothing", false), ("NoToolThere", false), ("Lifted", false), ("Lowered", false), ("Beyond", false), ("Blocked", false), ("TooDeep", false)])]), (.tup [(.const (.str "nofeature")), (.isExc (.var 0) [("BadRow", false), ("BadSketch", false), ("BadBlock", false), ("BadOutline", false), ("BadFeature", false), ("BadField", false), ("BadTools", false), ("BadWay", false), ("BadPaper", false), ("Clash", false), ("Twice", false), ("OutOfPlace", false), ("TooGreat", false), ("NoPoint", false), ("NoSaying", false), ("NoFeature", true), ("NoTool", false), ("Nothing", false), ("NoToolThere", false), ("Lifted", false), ("Lowered", false), ("Beyond", false), ("Blocked", false), ("TooDeep", false)])])]))),
   (.asg (.nm 1) (.bin .add (.var 1) (.lst [(.tup [(.const (.str "tool")), (.isExc (.var 0) [("BadRow", false), ("BadSketch", false), ("BadBlock", false), ("BadOutline", false), ("BadFeature", false), ("BadField", false), ("BadTools", false), ("BadWay", false), ("BadPaper", false), ("Clash", false), ("Twice", false), ("OutOfPlace", false), ("TooGreat", false), ("NoPoint", false), ("NoSaying", false), ("NoFeature", false), ("NoTool", true), ("Nothing", false), ("NoToolThere", false), ("Lifted", false), ("Lowered", false), ("Beyond", false), ("Blocked", false), ("TooDeep", false)])]), (.tup [(.const (.str "nothing")), (.isExc (.var 0) [("BadRow", false), ("BadSketch", false), ("BadBlock", false), ("BadOutline", false), ("BadFeature", false), ("BadField", false), ("BadTools", false), ("BadWay", false), ("BadPaper", false), ("Clash", false), ("Twice", false), ("OutOfPlace", false), ("TooGreat", false), ("NoPoint", false), ("NoSaying", false), ("NoFeature", false), ("NoTool", false), ("Nothing", true), ("NoToolThere", false), ("Lifted", false), ("Lowered", false), ("Beyond", false), ("Blocked", false), ("TooDeep", false)])])]))),
   (.asg (.nm 1) (.bin .add (.var 1) (.lst [(.tup [(.const (.str "notool")), (.isExc (.var 0) [("BadRow", false), ("BadSketch", false), ("BadBlock", false), ("BadOutline", false), ("BadFeature", false), ("BadField", false), ("BadTools", false), ("BadWay", false), ("BadPaper", false), ("Clash", false), ("Twice", false), ("OutOfPlace", false), ("TooGreat", false), ("NoPoint", false), ("NoSaying", false), ("NoFeature", false), ("NoTool", false), ("Nothing", false), ("NoToolThere", true), ("Lifted", false), ("Lowered", false), ("Beyond", false), ("Blocked", false), ("TooDeep", false)])]), (.tup [(.const (.str "lifted")), (.isExc (.var 0) [("BadRow", false), ("BadSketch", false), ("BadBlock", false), ("BadOutline", false), ("BadFeature", false), ("BadField", false), ("BadTools", false), ("BadWay", false), ("BadPaper", false), ("Clash", false), ("Twice", false), ("OutOfPlace", false), ("TooGreat", false), ("NoPoint", false), ("NoSaying", false), ("NoFeature", false), ("NoTool", false), ("Nothing", false), ("NoToolThere", false), ("Lifted", true), ("Lowered", false), ("Beyond", false), ("Blocked", false), ("TooDeep", false)])])]))),
   (.asg (.nm 1) (.bin .add (.var 1) (.lst [(.tup [(.const (.str "lowered")), (.isExc (.var 0) [("BadRow", false), ("BadSketch", false), ("BadBlock", false), ("BadOutline", false), ("BadFeature", false), ("BadField", false), ("BadTools", false), ("BadWay", false), ("BadPaper", false), ("Clash", false), ("Twice", false), ("OutOfPlace", false), ("TooGreat", false), ("NoPoint", false), ("NoSaying", false), ("NoFeature", false), ("NoTool", false), ("Nothing", false), ("NoToolThere", false), ("Lifted", false), ("Lowered", true), ("Beyond", false), ("Blocked", false), ("TooDeep", false)])]), (.tup [(.const (.str "beyond")), (.isExc (.var 0) [("BadRow", false), ("BadSketch", false), ("BadBlock", false), ("BadOutline", false), ("BadFeature", false), ("BadField", false), ("BadTools", false), ("BadWay", false), ("BadPaper", false), ("Clash", false), ("Twice", false), ("OutOfPlace", false), ("TooGreat", false), ("NoPoint", false), ("NoSaying", false), ("NoFeature", false), ("NoTool", false), ("Nothing", false), ("NoToolThere", false), ("Lifted", false), ("Lowered", false), ("Beyond", true), ("Blocked", false), ("TooDeep", false)])])]))),
   (.asg (.nm 1) (.bin .add (.var 1) (.lst [(.tup [(.const (.str "blocked")), (.isExc (.var 0) [("BadRow", false), ("BadSketch", false), ("BadBlock", false), ("BadOutline", false), ("BadFeature", false), ("BadField", false), ("BadTools", false), ("BadWay", false), ("BadPaper", false), ("Clash", false), ("Twice", false), ("OutOfPlace", false), ("TooGreat", false), ("NoPoint", false), ("NoSaying", false), ("NoFeature", false), ("NoTool", false), ("Nothing", false), ("NoToolThere", false), ("Lifted", false), ("Lowered", false), ("Beyond", false), ("Blocked", true), ("TooDeep", false)])]), (.tup [(.const (.str "deep")), (.isExc (.var 0) [("BadRow", false), ("BadSketch", false), ("BadBlock", false), ("BadOutline", false), ("BadFeature", false), ("BadField", false), ("BadTools", false), ("BadWay", false), ("BadPaper", false), ("Clash", false), ("Twice", false), ("OutOfPlace", false), ("TooGreat", false), ("NoPoint", false), ("NoSaying", false), ("NoFeature", false), ("NoTool", false), ("Nothing", false), ("NoToolThere", false), ("Lifted", false), ("Lowered", false), ("Beyond", false), ("Blocked", false), ("TooDeep", true)])])]))),
   (.asg (.nm 1) (.bin .add (.var 1) (.lst [(.tup [(.const (.str "ours")), (.isExc (.var 0) [("BadRow", true), ("BadSketch", true), ("BadBlock", true), ("BadOutline", true), ("BadFeature", true), ("BadField", true), ("BadTools", true), ("BadWay", true), ("BadPaper", true), ("Clash", true), ("Twice", true), ("OutOfPlace", true), ("TooGreat", true), ("NoPoint", false), ("NoSaying", false), ("NoFeature", false), ("NoTool", false), ("Nothing", false), ("NoToolThere", false), ("Lifted", false), ("Lowered", false), ("Beyond", false), ("Blocked", false), ("TooDeep", false)])]), (.tup [(.const (.str "value")), (.isExc (.var 0) [("BadRow", true), ("BadSketch", true), ("BadBlock", true), ("BadOutline", true), ("BadFeature", true), ("BadField", true), ("BadTools", true), ("BadWay", true), ("BadPaper", true), ("Clash", true), ("Twice", true), ("OutOfPlace", true), ("TooGreat", true), ("NoPoint", false), ("NoSaying", false), ("NoFeature", false), ("NoTool", false), ("Nothing", false), ("NoToolThere", false), ("Lifted", false), ("Lowered", false), ("Beyond", false), ("Blocked", false), ("TooDeep", false)])])]))),
   (.asg (.nm 1) (.bin .add (.var 1) (.lst [(.tup [(.const (.str "miss")), (.isExc (.var 0) [("BadRow", false), ("BadSketch", false), ("BadBlock", false), ("BadOutline", false), ("BadFeature", false), ("BadField", false), ("BadTools", false), ("BadWay", false), ("BadPaper", false), ("Clash", false), ("Twice", false), ("OutOfPlace", false), ("TooGreat", false), ("NoPoint", true), ("NoSaying", true), ("NoFeature", true), ("NoTool", true), ("Nothing", true), ("NoToolThere", false), ("Lifted", false), ("Lowered", false), ("Beyond", false), ("Blocked", false), ("TooDeep", false)])]), (.tup [(.const (.str "lookup")), (.isExc (.var 0) [("BadRow", false), ("BadSketch", false), ("BadBlock", false), ("BadOutline", false), ("BadFeature", false), ("BadField", false), ("BadTools", false), ("BadWay", false), ("BadPaper", false), ("Clash", false), ("Twice", false), ("OutOfPlace", false), ("TooGreat", false), ("NoPoint", true), ("NoSaying", true), ("NoFeature", true), ("NoTool", true), ("Nothing", true), ("NoToolThere", false), ("Lifted", false), ("Lowered", false), ("Beyond", false), ("Blocked", false), ("TooDeep", false)])])]))),
   (.asg (.nm 1) (.bin .add (.var 1) (.lst [(.tup [(.const (.str "fault")), (.isExc (.var 0) [("BadRow", false), ("BadSketch", false), ("BadBlock", false), ("BadOutline", false), ("BadFeature", false), ("BadField", false), ("BadTools", false), ("BadWay", false), ("BadPaper", false), ("Clash", false), ("Twice", false), ("OutOfPlace", false), ("TooGreat", false), ("NoPoint", false), ("NoSaying", false), ("NoFeature", false), ("NoTool", false), ("Nothing", false), ("NoToolThere", true), ("Lifted", true), ("Lowered", true), ("Beyond", true), ("Blocked", true), ("TooDeep", true)])]), (.tup [(.const (.str "runtime")), (.isExc (.var 0) [("BadRow", false), ("BadSketch", false), ("BadBlock", false), ("BadOutline", false), ("BadFeature", false), ("BadField", false), ("BadTools", false), ("BadWay", false), ("BadPaper", false), ("Clash", false), ("Twice", false), ("OutOfPlace", false), ("TooGreat", false), ("NoPoint", false), ("NoSaying", false), ("NoFeature", false), ("NoTool", false), ("Nothing", false), ("NoToolThere", true), ("Lifted", true), ("Lowered", true), ("Beyond", true), ("Blocked", true), ("TooDeep", true)])])]))),
   (.ret (.lcomp (.var 2) (.tp [(.nm 2), (.nm 3)]) .val [(.var 1)] [(.var 3)] [2, 3]))]⟩
def F__law_by_hand : Fn := ⟨2, 10,
  [(.asg (.nm 2) (.lst [(.mkx "BadRow" ["word", "row"] [(.var 0), (.const (.int (3)))] [.inl 1, .inl 0]), (.mkx "BadSketch" ["number", "part"] [(.const (.str "points")), (.var 0)] [.inl 1, .inl 0]), (.mkx "BadBlock" ["place"] [(.var 0)] [.inl 0]), (.mkx "BadOutline" ["number"] [(.var 0)] [.inl 0]), (.mkx "BadFeature" ["number"] [(.var 0)] [.inl 0])])),
   (.asg (.nm 3) (.lst [(.fld (.ix (.var 2) (.const (.int (0)))) "row" ["BadRow"]), (.fld (.ix (.var 2) (.const (.int (0)))) "word" ["BadRow"]), (.fld (.ix (.var 2) (.const (.int (1)))) "part" ["BadSketch"]), (.fld (.ix (.var 2) (.const (.int (1)))) "number" ["BadSketch", "BadOutline", "BadFeature", "BadTools", "BadWay", "Clash", "NoSaying", "NoFeature"]), (.fld (.ix (.var 2) (.const (.int (2)))) "place" ["BadBlock", "BadField", "BadPaper", "Beyond", "Blocked", "TooDeep"]), (.fld (.ix (.var 2) (.const (.int (3)))) "number" ["BadSketch", "BadOutline", "BadFeature", "BadTools", "BadWay", "Clash", "NoSaying", "NoFeature"]), (.fld (.ix (.var 2) (.const (.int (4)))) "number" ["BadSketch", "BadOutline", "BadFeature", "BadTools", "BadWay", "Clash", "NoSaying", "NoFeature"])])),
   (.ite (.cmp .ne (.var 3) (.lst [(.var 0), (.const (.int (3))), (.const (.str "points")), (.var 0), (.var 0), (.var 0), (.var 0)])) [(.ret (.const (.bl false)))] []),
   (.asg (.nm 4) (.lst [(.mkx "BadField" ["place"] [(.tup [(.var 1), (.var 0)])] [.inl 0]), (.mkx "BadTools" ["number"] [(.var 0)] [.inl 0]), (.mkx "BadWay" ["number"] [(.var 0)] [.inl 0]), (.mkx "BadPaper" ["place"] [(.tup [(.var 1), (.var 0)])] [.inl 0]), (.mkx "Clash" ["number"] [(.var 0)] [.inl 0])])),
   (.asg (.nm 3) (.lst [(.fld (.ix (.var 4) (.const (.int (0)))) "place" ["BadBlock", "BadField", "BadPaper", "Beyond", "Blocked", "TooDeep"]), (.fld (.ix (.var 4) (.const (.int (1)))) "number" ["BadSketch", "BadOutline", "BadFeature", "BadTools", "BadWay", "Clash", "NoSaying", "NoFeature"]), (.fld (.ix (.var 4) (.const (.int (2)))) "number" ["BadSketch", "BadOutline", "BadFeature", "BadTools", "BadWay", "Clash", "NoSaying", "NoFeature"]), (.fld (.ix (.var 4) (.const (.int (3)))) "place" ["BadBlock", "BadField", "BadPaper", "Beyond", "Blocked", "TooDeep"]), (.fld (.ix (.var 4) (.const (.int (4)))) "number" ["BadSketch", "BadOutline", "BadFeature", "BadTools", "BadWay", "Clash", "NoSaying", "NoFeature"])])),
   (.ite (.cmp .ne (.var 3) (.lst [(.tup [(.var 1), (.var 0)]), (.var 0), (.var 0), (.tup [(.var 1), (.var 0)]), (.var 0)])) [(.ret (.const (.bl false)))] []),
   (.asg (.nm 5) (.lst [(.mkx "NoPoint" ["name"] [(.var 1)] [.inl 0]), (.mkx "NoSaying" ["number"] [(.var 0)] [.inl 0]), (.mkx "NoFeature" ["number"] [(.var 0)] [.inl 0]), (.mkx "NoTool" ["tool"] [(.tup [(.var 0), (.const (.int (1)))])] [.inl 0]), (.mkx "Beyond" ["place"] [(.tup [(.var 0), (.const (.int (2)))])] [.inl 0])])),
   (.asg (.nm 5) (.bin .add (.var 5) (.lst [(.mkx "Blocked" ["place"] [(.tup [(.const (.int (3))), (.var 0)])] [.inl 0]), (.mkx "TooDeep" ["place"] [(.var 0)] [.inl 0])]))),
   (.asg (.nm 3) (.lst [(.fld (.ix (.var 5) (.const (.int (0)))) "name" ["NoPoint"]), (.fld (.ix (.var 5) (.const (.int (1)))) "number" ["BadSketch", "BadOutline", "BadFeature", "BadTools", "BadWay", "Clash", "NoSaying", "NoFeature"]), (.fld (.ix (.var 5) (.const (.int (2)))) "number" ["BadSketch", "BadOutline", "BadFeature", "BadTools", "BadWay", "Clash", "NoSaying", "NoFeature"]), (.fld (.ix (.var 5) (.const (.int (3)))) "tool" ["NoTool"]), (.fld (.ix (.var 5) (.const (.int (4)))) "place" ["BadBlock", "BadField", "BadPaper", "Beyond", "Blocked", "TooDeep"]), (.fld (.ix (.var 5) (.const (.int (5)))) "place" ["BadBlock", "BadField", "BadPaper", "Beyond", "Blocked", "TooDeep"]), (.fld (.ix (.var 5) (.const (.int (6)))) "place" ["BadBlock", "BadField", "BadPaper", "Beyond", "Blocked", "TooDeep"])])),
   (.ite (.cmp .ne (.var 3) (.lst [(.var 1), (.var 0), (.var 0), (.tup [(.var 0), (.const (.int (1)))]), (.tup [(.var 0), (.const (.int (2)))]), (.tup [(.const (.int (3))), (.var 0)]), (.var 0)])) [(.ret (.const (.bl false)))] []),
   (.asg (.nm 2) (.bin .add (.bin .add (.bin .add (.var 2) (.var 4)) (.var 5)) (.lst [(.mkx "Twice" [] [] []), (.mkx "OutOfPlace" [] [] []), (.mkx "TooGreat" [] [] []), (.mkx "Nothing" [] [] []), (.mkx "NoToolThere" [] [] [])]))),
   (.asg (.nm 2) (.bin .add (.var 2) (.lst [(.mkx "Lifted" [] [] []), (.mkx "Lowered" [] [] [])]))),
   (.asg (.nm 6) (.lst [(.const (.str "row")), (.const (.str "sketch")), (.const (.str "block")), (.const (.str "outline")), (.const (.str "feature")), (.const (.str "field")), (.const (.str "tools")), (.const (.str "way")), (.const (.str "paper")), (.const (.str "clash"))])),
   (.asg (.nm 7) (.lcomp (.lst [(.var 8), (.const (.str "ours")), (.const (.str "value"))]) (.nm 8) .val [(.var 6)] [] [8])),
   (.asg (.nm 7) (.bin .add (.var 7) (.lcomp (.lst [(.var 8), (.const (.str "miss")), (.const (.str "lookup"))]) (.nm 8) .val [(.lst [(.const (.str "point")), (.const (.str "saying")), (.const (.str "nofeature")), (.const (.str "tool"))])] [] [8]))),
   (.asg (.nm 7) (.bin .add (.var 7) (.lcomp (.lst [(.var 8), (.const (.str "fault")), (.const (.str "runtime"))]) (.nm 8) .val [(.lst [(.const (.str "beyond")), (.const (.str "blocked")), (.const (.str "deep"))])] [] [8]))),
   (.asg (.nm 7) (.bin .add (.bin .add (.var 7) (.lcomp (.lst [(.var 8), (.const (.str "ours")), (.const (.str "value"))]) (.nm 8) .val [(.lst [(.const (.str "twice")), (.const (.str "place")), (.const (.str "great"))])] [] [8])) (.lst [(.lst [(.const (.str "nothing")), (.const (.str "miss")), (.const (.str "lookup"))])]))),
   (.asg (.nm 7) (.bin .add (.var 7) (.lcomp (.lst [(.var 8), (.const (.str "fault")), (.const (.str "runtime"))]) (.nm 8) .val [(.lst [(.const (.str "notool")), (.const (.str "lifted")), (.const (.str "lowered"))])] [] [8]))),
   (.ret (.cmp .eq (.lcomp (.call "_law_kinds" [(.var 9)] [.inl 0]) (.nm 9) .val [(.var 2)] [] [9]) (.var 7)))]⟩
def F__law_left_out : Fn := ⟨2, 5,
  [(.asg (.nm 2) (.lst [(.mkx "BadSketch" ["number", "part"] [] [.inr .non, .inr .non]), (.mkx "BadSketch" ["number", "part"] [(.var 1)] [.inr .non, .inl 0]), (.mkx "BadSketch" ["number", "part"] [(.var 1)] [.inr .non, .inl 0]), (.mkx "BadOutline" ["number"] [] [.inr .non]), (.mkx "BadFeature" ["number"] [] [.inr .non]), (.mkx "BadTools" ["number"] [] [.inr .non]), (.mkx "BadWay" ["number"] [] [.inr .non])])),
   (.ite (.cmp .ne (.lcomp (.fld (.var 4) "number" ["BadSketch", "BadOutline", "BadFeature", "BadTools", "BadWay", "Clash", "NoSaying", "NoFeature"]) (.nm 4) .val [(.var 2)] [] [4]) (.bin .mul (.lst [(.const .non)]) (.const (.int (7))))) [(.ret (.const (.bl false)))] []),
   (.ite (.cmp .ne (.lst [(.fld (.ix (.var 2) (.const (.int (0)))) "part" ["BadSketch"]), (.fld (.ix (.var 2) (.const (.int (1)))) "part" ["BadSketch"]), (.fld (.ix (.var 2) (.const (.int (2)))) "part" ["BadSketch"])]) (.lst [(.const .non), (.var 1), (.var 1)])) [(.ret (.const (.bl false)))] []),
   (.ite (.cmp .ne (.lst [(.fld (.mkx "BadBlock" ["place"] [] [.inr .non]) "place" ["BadBlock", "BadField", "BadPaper", "Beyond", "Blocked", "TooDeep"]), (.fld (.mkx "BadField" ["place"] [] [.inr .non]) "place" ["BadBlock", "BadField", "BadPaper", "Beyond", "Blocked", "TooDeep"]), (.fld (.mkx "BadPaper" ["place"] [] [.inr .non]) "place" ["BadBlock", "BadField", "BadPaper", "Beyond", "Blocked", "TooDeep"])]) (.bin .mul (.lst [(.const .non)]) (.const (.int (3))))) [(.ret (.const (.bl false)))] []),
   (.asg (.nm 3) (.lst [(.fld (.mkx "BadRow" ["word", "row"] [(.var 0), (.const (.int (7)))] [.inl 0, .inl 1]) "word" ["BadRow"]), (.fld (.mkx "BadRow" ["word", "row"] [(.var 0), (.const (.int (7)))] [.inl 0, .inl 1]) "row" ["BadRow"]), (.fld (.mkx "BadSketch" ["number", "part"] [(.var 0), (.var 1)] [.inl 0, .inl 1]) "number" ["BadSketch", "BadOutline", "BadFeature", "BadTools", "BadWay", "Clash", "NoSaying", "NoFeature"])])),
   (.asg (.nm 3) (.bin .add (.var 3) (.lst [(.fld (.mkx "BadBlock" ["place"] [(.var 0)] [.inl 0]) "place" ["BadBlock", "BadField", "BadPaper", "Beyond", "Blocked", "TooDeep"]), (.fld (.mkx "BadOutline" ["number"] [(.var 0)] [.inl 0]) "number" ["BadSketch", "BadOutline", "BadFeature", "BadTools", "BadWay", "Clash", "NoSaying", "NoFeature"]), (.fld (.mkx "BadFeature" ["number"] [(.var 0)] [.inl 0]) "number" ["BadSketch", "BadOutline", "BadFeature", "BadTools", "BadWay", "Clash", "NoSaying", "NoFeature"])]))),
   (.asg (.nm 3) (.bin .add (.var 3) (.lst [(.fld (.mkx "BadField" ["place"] [(.var 0)] [.inl 0]) "place" ["BadBlock", "BadField", "BadPaper", "Beyond", "Blocked", "TooDeep"]), (.fld (.mkx "BadTools" ["number"] [(.var 0)] [.inl 0]) "number" ["BadSketch", "BadOutline", "BadFeature", "BadTools", "BadWay", "Clash", "NoSaying", "NoFeature"]), (.fld (.mkx "BadWay" ["number"] [(.var 0)] [.inl 0]) "number" ["BadSketch", "BadOutline", "BadFeature", "BadTools", "BadWay", "Clash", "NoSaying", "NoFeature"])]))),
   (.asg (.nm 3) (.bin .add (.var 3) (.lst [(.fld (.mkx "BadPaper" ["place"] [(.var 0)] [.inl 0]) "place" ["BadBlock", "BadField", "BadPaper", "Beyond", "Blocked", "TooDeep"]), (.fld (.mkx "Clash" ["number"] [(.var 0)] [.inl 0]) "number" ["BadSketch", "BadOutline", "BadFeature", "BadTools", "BadWay", "Clash", "NoSaying", "NoFeature"]), (.fld (.mkx "NoSaying" ["number"] [(.var 0)] [.inl 0]) "number" ["BadSketch", "BadOutline", "BadFeature", "BadTools", "BadWay", "Clash", "NoSaying", "NoFeature"])]))),
   (.asg (.nm 3) (.bin .add (.var 3) (.lst [(.fld (.mkx "NoFeature" ["number"] [(.var 0)] [.inl 0]) "number" ["BadSketch", "BadOutline", "BadFeature", "BadTools", "BadWay", "Clash", "NoSaying", "NoFeature"]), (.fld (.mkx "NoTool" ["tool"] [(.var 0)] [.inl 0]) "tool" ["NoTool"]), (.fld (.mkx "Beyond" ["place"] [(.var 0)] [.inl 0]) "place" ["BadBlock", "BadField", "BadPaper", "Beyond", "Blocked", "TooDeep"])]))),
   (.asg (.nm 3) (.bin .add (.var 3) (.lst [(.fld (.mkx "Blocked" ["place"] [(.var 0)] [.inl 0]) "place" ["BadBlock", "BadField", "BadPaper", "Beyond", "Blocked", "TooDeep"]), (.fld (.mkx "TooDeep" ["place"] [(.var 0)] [.inl 0]) "place" ["BadBlock", "BadField", "BadPaper", "Beyond", "Blocked", "TooDeep"])]))),
   (.ret (.and_ (.cmp .eq (.var 3) (.bin .add (.lst [(.var 0), (.const (.int (7)))]) (.bin .mul (.lst [(.var 0)]) (.const (.int (15)))))) (.cmp .eq (.fld (.mkx "NoPoint" ["name"] [(.var 1)] [.inl 0]) "name" ["NoPoint"]) (.var 1))))]⟩
def F_law : Fn := ⟨1, 6,
  [(.for_ (.tp [(.nm 1), (.nm 2)]) .enum [(.bin .add (.slice (.var 0) (.const .non) (.const (.int (12))) false true) (.lst [(.prim .sum [(.var 0)])]))] [(.asg (.nm 3) (.call "_law_draw" [(.var 2), (.var 1)] [.inl 0, .inl 1])), (.asg (.nm 4) (.ix (.lst [(.bin .sub (.call "_law_digit" [(.var 3), (.bin .pow (.const (.int (10))) (.const (.int (9))))] [.inl 0, .inl 1]) (.const (.int (400)))), (.bin .mod (.var 2) (.bin .pow (.const (.int (10))) (.const (.int (60)))))]) (.call "_law_digit" [(.var 3), (.const (.int (2)))] [.inl 0, .inl 1]))), (.asg (.nm 5) (.call "_law_word" [(.var 3)] [.inl 0])), (.ite (.or_ (.not_ (.call "_law_by_hand" [(.var 4), (.var 5)] [.inl 0, .inl 1])) (.not_ (.call "_law_left_out" [(.var 4), (.var 5)] [.inl 0, .inl 1]))) [(.ret (.const (.bl false)))] [])]),
   (.ret (.const (.bl true)))]⟩

structure T5 (tb : List (Str × Fn)) : Prop where
  mixed : Has tb "_law_mixed" F__law_mixed
  draw : Has tb "_law_draw" F__law_draw
  digit : Has tb "_law_digit" F__law_digit
  word : Has tb "_law_word" F__law_word
  kinds : Has tb "_law_kinds" F__law_kinds
  hand : Has tb "_law_by_hand" F__law_by_hand
  out : Has tb "_law_left_out" F__law_left_out
def kindsT : List (Str × Val) := [("BadRow", .lst [.str "row", .str "ours", .str "value"]), ("BadSketch", .lst [.str "sketch", .str "ours", .str "value"]), ("BadBlock", .lst [.str "block", .str "ours", .str "value"]), ("BadOutline", .lst [.str "outline", .str "ours", .str "value"]), ("BadFeature", .lst [.str "feature", .str "ours", .str "value"]), ("BadField", .lst [.str "field", .str "ours", .str "value"]), ("BadTools", .lst [.str "tools", .str "ours", .str "value"]), ("BadWay", .lst [.str "way", .str "ours", .str "value"]), ("BadPaper", .lst [.str "paper", .str "ours", .str "value"]), ("Clash", .lst [.str "clash", .str "ours", .str "value"]), ("Twice", .lst [.str "twice", .str "ours", .str "value"]), ("OutOfPlace", .lst [.str "place", .str "ours", .str "value"]), ("TooGreat", .lst [.str "great", .str "ours", .str "value"]), ("NoPoint", .lst [.str "point", .str "miss", .str "lookup"]), ("NoSaying", .lst [.str "saying", .str "miss", .str "lookup"]), ("NoFeature", .lst [.str "nofeature", .str "miss", .str "lookup"]), ("NoTool", .lst [.str "tool", .str "miss", .str "lookup"]), ("Nothing", .lst [.str "nothing", .str "miss", .str "lookup"]), ("NoToolThere", .lst [.str "notool", .str "fault", .str "runtime"]), ("Lifted", .lst [.str "lifted", .str "fault", .str "runtime"]), ("Lowered", .lst [.str "lowered", .str "fault", .str "runtime"]), ("Beyond", .lst [.str "beyond", .str "fault", .str "runtime"]), ("Blocked", .lst [.str "blocked", .str "fault", .str "runtime"]), ("TooDeep", .lst [.str "deep", .str "fault", .str "runtime"])]
def kindsOf (v : Val) : Val := match v with
  | .exc n _ _ => (kindsT.lookup n).getD .non
  | _ => .non
section
variable {tb : List (Str × Fn)} {cs : Cells} {cl : Cl} {ks : List Str} {vs : List Val} {a b : Val}
theorem kd_BadRow : exs cl F__law_kinds.body [some (.exc "BadRow" ks vs), none, none, none] cs = .ok (.rt (.lst [.str "row", .str "ours", .str "value"])) cs := by kernel_rfl
theorem kd_BadSketch : exs cl F__law_kinds.body [some (.exc "BadSketch" ks vs), none, none, none] cs = .ok (.rt (.lst [.str "sketch", .str "ours", .str "value"])) cs := by kernel_rfl
theorem kd_BadBlock : exs cl F__law_kinds.body [some (.exc "BadBlock" ks vs), none, none, none] cs = .ok (.rt (.lst [.str "block", .str "ours", .str "value"])) cs := by kernel_rfl
theorem kd_BadOutline : exs cl F__law_kinds.body [some (.exc "BadOutline" ks vs), none, none, none] cs = .ok (.rt (.lst [.str "outline", .str "ours", .str "value"])) cs := by kernel_rfl
theorem kd_BadFeature : exs cl F__law_kinds.body [some (.exc "BadFeature" ks vs), none, none, none] cs = .ok (.rt (.lst [.str "feature", .str "ours", .str "value"])) cs := by kernel_rfl
theorem kd_BadField : exs cl F__law_kinds.body [some (.exc "BadField" ks vs), none, none, none] cs = .ok (.rt (.lst [.str "field", .str "ours", .str "value"])) cs := by kernel_rfl
theorem kd_BadTools : exs cl F__law_kinds.body [some (.exc "BadTools" ks vs), none, none, none] cs = .ok (.rt (.lst [.str "tools", .str "ours", .str "value"])) cs := by kernel_rfl
theorem kd_BadWay : exs cl F__law_kinds.body [some (.exc "BadWay" ks vs), none, none, none] cs = .ok (.rt (.lst [.str "way", .str "ours", .str "value"])) cs := by kernel_rfl
theorem kd_BadPaper : exs cl F__law_kinds.body [some (.exc "BadPaper" ks vs), none, none, none] cs = .ok (.rt (.lst [.str "paper", .str "ours", .str "value"])) cs := by kernel_rfl
theorem kd_Clash : exs cl F__law_kinds.body [some (.exc "Clash" ks vs), none, none, none] cs = .ok (.rt (.lst [.str "clash", .str "ours", .str "value"])) cs := by kernel_rfl
theorem kd_Twice : exs cl F__law_kinds.body [some (.exc "Twice" ks vs), none, none, none] cs = .ok (.rt (.lst [.str "twice", .str "ours", .str "value"])) cs := by kernel_rfl
theorem kd_OutOfPlace : exs cl F__law_kinds.body [some (.exc "OutOfPlace" ks vs), none, none, none] cs = .ok (.rt (.lst [.str "place", .str "ours", .str "value"])) cs := by kernel_rfl
theorem kd_TooGreat : exs cl F__law_kinds.body [some (.exc "TooGreat" ks vs), none, none, none] cs = .ok (.rt (.lst [.str "great", .str "ours", .str "value"])) cs := by kernel_rfl
theorem kd_NoPoint : exs cl F__law_kinds.body [some (.exc "NoPoint" ks vs), none, none, none] cs = .ok (.rt (.lst [.str "point", .str "miss", .str "lookup"])) cs := by kernel_rfl
theorem kd_NoSaying : exs cl F__law_kinds.body [some (.exc "NoSaying" ks vs), none, none, none] cs = .ok (.rt (.lst [.str "saying", .str "miss", .str "lookup"])) cs := by kernel_rfl
theorem kd_NoFeature : exs cl F__law_kinds.body [some (.exc "NoFeature" ks vs), none, none, none] cs = .ok (.rt (.lst [.str "nofeature", .str "miss", .str "lookup"])) cs := by kernel_rfl
theorem kd_NoTool : exs cl F__law_kinds.body [some (.exc "NoTool" ks vs), none, none, none] cs = .ok (.rt (.lst [.str "tool", .str "miss", .str "lookup"])) cs := by kernel_rfl
theorem kd_Nothing : exs cl F__law_kinds.body [some (.exc "Nothing" ks vs), none, none, none] cs = .ok (.rt (.lst [.str "nothing", .str "miss", .str "lookup"])) cs := by kernel_rfl
theorem kd_NoToolThere : exs cl F__law_kinds.body [some (.exc "NoToolThere" ks vs), none, none, none] cs = .ok (.rt (.lst [.str "notool", .str "fault", .str "runtime"])) cs := by kernel_rfl
theorem kd_Lifted : exs cl F__law_kinds.body [some (.exc "Lifted" ks vs), none, none, none] cs = .ok (.rt (.lst [.str "lifted", .str "fault", .str "runtime"])) cs := by kernel_rfl
theorem kd_Lowered : exs cl F__law_kinds.body [some (.exc "Lowered" ks vs), none, none, none] cs = .ok (.rt (.lst [.str "lowered", .str "fault", .str "runtime"])) cs := by kernel_rfl
theorem kd_Beyond : exs cl F__law_kinds.body [some (.exc "Beyond" ks vs), none, none, none] cs = .ok (.rt (.lst [.str "beyond", .str "fault", .str "runtime"])) cs := by kernel_rfl
theorem kd_Blocked : exs cl F__law_kinds.body [some (.exc "Blocked" ks vs), none, none, none] cs = .ok (.rt (.lst [.str "blocked", .str "fault", .str "runtime"])) cs := by kernel_rfl
theorem kd_TooDeep : exs cl F__law_kinds.body [some (.exc "TooDeep" ks vs), none, none, none] cs = .ok (.rt (.lst [.str "deep", .str "fault", .str "runtime"])) cs := by kernel_rfl
theorem fl_BadRow_word : fldV (.exc "BadRow" ["word", "row"] [a, b]) "word" ["BadRow"] = some a := by kernel_rfl
theorem fl_BadRow_row : fldV (.exc "BadRow" ["word", "row"] [a, b]) "row" ["BadRow"] = some b := by kernel_rfl
theorem fl_BadSketch_number : fldV (.exc "BadSketch" ["number", "part"] [a, b]) "number" ["BadSketch", "BadOutline", "BadFeature", "BadTools", "BadWay", "Clash", "NoSaying", "NoFeature"] = some a := by kernel_rfl
theorem fl_BadSketch_part : fldV (.exc "BadSketch" ["number", "part"] [a, b]) "part" ["BadSketch"] = some b := by kernel_rfl
theorem fl_BadBlock_place : fldV (.exc "BadBlock" ["place"] [a]) "place" ["BadBlock", "BadField", "BadPaper", "Beyond", "Blocked", "TooDeep"] = some a := by kernel_rfl
theorem fl_BadOutline_number : fldV (.exc "BadOutline" ["number"] [a]) "number" ["BadSketch", "BadOutline", "BadFeature", "BadTools", "BadWay", "Clash", "NoSaying", "NoFeature"] = some a := by kernel_rfl
theorem fl_BadFeature_number : fldV (.exc "BadFeature" ["number"] [a]) "number" ["BadSketch", "BadOutline", "BadFeature", "BadTools", "BadWay", "Clash", "NoSaying", "NoFeature"] = some a := by kernel_rfl
theorem fl_BadField_place : fldV (.exc "BadField" ["place"] [a]) "place" ["BadBlock", "BadField", "BadPaper", "Beyond", "Blocked", "TooDeep"] = some a := by kernel_rfl
theorem fl_BadTools_number : fldV (.exc "BadTools" ["number"] [a]) "number" ["BadSketch", "BadOutline", "BadFeature", "BadTools", "BadWay", "Clash", "NoSaying", "NoFeature"] = some a := by kernel_rfl
theorem fl_BadWay_number : fldV (.exc "BadWay" ["number"] [a]) "number" ["BadSketch", "BadOutline", "BadFeature", "BadTools", "BadWay", "Clash", "NoSaying", "NoFeature"] = some a := by kernel_rfl
theorem fl_BadPaper_place : fldV (.exc "BadPaper" ["place"] [a]) "place" ["BadBlock", "BadField", "BadPaper", "Beyond", "Blocked", "TooDeep"] = some a := by kernel_rfl
theorem fl_Clash_number : fldV (.exc "Clash" ["number"] [a]) "number" ["BadSketch", "BadOutline", "BadFeature", "BadTools", "BadWay", "Clash", "NoSaying", "NoFeature"] = some a := by kernel_rfl
theorem fl_NoPoint_name : fldV (.exc "NoPoint" ["name"] [a]) "name" ["NoPoint"] = some a := by kernel_rfl
theorem fl_NoSaying_number : fldV (.exc "NoSaying" ["number"] [a]) "number" ["BadSketch", "BadOutline", "BadFeature", "BadTools", "BadWay", "Clash", "NoSaying", "NoFeature"] = some a := by kernel_rfl
theorem fl_NoFeature_number : fldV (.exc "NoFeature" ["number"] [a]) "number" ["BadSketch", "BadOutline", "BadFeature", "BadTools", "BadWay", "Clash", "NoSaying", "NoFeature"] = some a := by kernel_rfl
theorem fl_NoTool_tool : fldV (.exc "NoTool" ["tool"] [a]) "tool" ["NoTool"] = some a := by kernel_rfl
theorem fl_Beyond_place : fldV (.exc "Beyond" ["place"] [a]) "place" ["BadBlock", "BadField", "BadPaper", "Beyond", "Blocked", "TooDeep"] = some a := by kernel_rfl
theorem fl_Blocked_place : fldV (.exc "Blocked" ["place"] [a]) "place" ["BadBlock", "BadField", "BadPaper", "Beyond", "Blocked", "TooDeep"] = some a := by kernel_rfl
theorem fl_TooDeep_place : fldV (.exc "TooDeep" ["place"] [a]) "place" ["BadBlock", "BadField", "BadPaper", "Beyond", "Blocked", "TooDeep"] = some a := by kernel_rfl
theorem ko_BadRow : kindsOf (.exc "BadRow" ks vs) = .lst [.str "row", .str "ours", .str "value"] := by kernel_rfl
theorem ko_BadSketch : kindsOf (.exc "BadSketch" ks vs) = .lst [.str "sketch", .str "ours", .str "value"] := by kernel_rfl
theorem ko_BadBlock : kindsOf (.exc "BadBlock" ks vs) = .lst [.str "block", .str "ours", .str "value"] := by kernel_rfl
theorem ko_BadOutline : kindsOf (.exc "BadOutline" ks vs) = .lst [.str "outline", .str "ours", .str "value"] := by kernel_rfl
theorem ko_BadFeature : kindsOf (.exc "BadFeature" ks vs) = .lst [.str "feature", .str "ours", .str "value"] := by kernel_rfl
theorem ko_BadField : kindsOf (.exc "BadField" ks vs) = .lst [.str "field", .str "ours", .str "value"] := by kernel_rfl
theorem ko_BadTools : kindsOf (.exc "BadTools" ks vs) = .lst [.str "tools", .str "ours", .str "value"] := by kernel_rfl
theorem ko_BadWay : kindsOf (.exc "BadWay" ks vs) = .lst [.str "way", .str "ours", .str "value"] := by kernel_rfl
theorem ko_BadPaper : kindsOf (.exc "BadPaper" ks vs) = .lst [.str "paper", .str "ours", .str "value"] := by kernel_rfl
theorem ko_Clash : kindsOf (.exc "Clash" ks vs) = .lst [.str "clash", .str "ours", .str "value"] := by kernel_rfl
theorem ko_Twice : kindsOf (.exc "Twice" ks vs) = .lst [.str "twice", .str "ours", .str "value"] := by kernel_rfl
theorem ko_OutOfPlace : kindsOf (.exc "OutOfPlace" ks vs) = .lst [.str "place", .str "ours", .str "value"] := by kernel_rfl
theorem ko_TooGreat : kindsOf (.exc "TooGreat" ks vs) = .lst [.str "great", .str "ours", .str "value"] := by kernel_rfl
theorem ko_NoPoint : kindsOf (.exc "NoPoint" ks vs) = .lst [.str "point", .str "miss", .str "lookup"] := by kernel_rfl
theorem ko_NoSaying : kindsOf (.exc "NoSaying" ks vs) = .lst [.str "saying", .str "miss", .str "lookup"] := by kernel_rfl
theorem ko_NoFeature : kindsOf (.exc "NoFeature" ks vs) = .lst [.str "nofeature", .str "miss", .str "lookup"] := by kernel_rfl
theorem ko_NoTool : kindsOf (.exc "NoTool" ks vs) = .lst [.str "tool", .str "miss", .str "lookup"] := by kernel_rfl
theorem ko_Nothing : kindsOf (.exc "Nothing" ks vs) = .lst [.str "nothing", .str "miss", .str "lookup"] := by kernel_rfl
theorem ko_NoToolThere : kindsOf (.exc "NoToolThere" ks vs) = .lst [.str "notool", .str "fault", .str "runtime"] := by kernel_rfl
theorem ko_Lifted : kindsOf (.exc "Lifted" ks vs) = .lst [.str "lifted", .str "fault", .str "runtime"] := by kernel_rfl
theorem ko_Lowered : kindsOf (.exc "Lowered" ks vs) = .lst [.str "lowered", .str "fault", .str "runtime"] := by kernel_rfl
theorem ko_Beyond : kindsOf (.exc "Beyond" ks vs) = .lst [.str "beyond", .str "fault", .str "runtime"] := by kernel_rfl
theorem ko_Blocked : kindsOf (.exc "Blocked" ks vs) = .lst [.str "blocked", .str "fault", .str "runtime"] := by kernel_rfl
theorem ko_TooDeep : kindsOf (.exc "TooDeep" ks vs) = .lst [.str "deep", .str "fault", .str "runtime"] := by kernel_rfl
theorem kd_call (T : T5 tb) (k : Nat) {n : Str} {v : Val} (h : ∀ cl, exs cl F__law_kinds.body [some (.exc n ks vs), none, none, none] cs = .ok (.rt v) cs) (hv : noRef v = true) : callAt tb (k + 1) "_law_kinds" [.exc n ks vs] cs = .ok v cs := by
  rw [call_eq T.kinds rfl]
  have e := h (callAt tb k)
  show leave cs.length (exs (callAt tb k) F__law_kinds.body [some (.exc n ks vs), none, none, none] cs) = _
  rw [e]
  cases v <;> first | (simp [leave]; done) | cases hv
def flds : List Nat := []
end
end K05L

set_option maxHeartbeats 4000000
/-! K05Lb: the law. -/
namespace K05L
open PySem L2 Ps
section
variable {tb : List (Str × Fn)} {cl : Cl} {cs : Cells} {i : Int} {x : Str} {σ : Slots}
theorem ne_stmt {a b : E} {v : Val} {ss : List S} (ha : ev cl a σ cs = .ok v cs) (hb : ev cl b σ cs = .ok v cs) (hq : qV v = true) (hd : dpV v ≤ 64) : ex cl (.ite (.cmp .ne a b) ss []) σ cs = .ok (.nx σ) cs := by
  simp [ha, hb, eq_same hq hd]
theorem so_points : PyData.strOk "points" = true := by decide +kernel
theorem exs_go {a b : List S} {σ' : Slots} (h : exs cl a σ cs = .ok (.nx σ') cs) : exs cl (a ++ b) σ cs = exs cl b σ' cs := by
  rw [exs_app, h]
  rfl
theorem exs_one {s : S} {ss : List S} {σ' : Slots} (h : ex cl s σ cs = .ok (.nx σ') cs) : exs cl (s :: ss) σ cs = exs cl ss σ' cs := by
  rw [exs_cons, h]
  rfl
def mLl (x : Str) : List Val := [.exc "BadSketch" ["number", "part"] [.non, .non], .exc "BadSketch" ["number", "part"] [.non, .str x], .exc "BadSketch" ["number", "part"] [.non, .str x], .exc "BadOutline" ["number"] [.non], .exc "BadFeature" ["number"] [.non], .exc "BadTools" ["number"] [.non], .exc "BadWay" ["number"] [.non]]
def mL (x : Str) : Val := .lst (mLl x)
def tL (i : Int) : Val := .lst [.int i, .int 7, .int i, .int i, .int i, .int i, .int i, .int i, .int i, .int i, .int i, .int i, .int i, .int i, .int i, .int i, .int i]
theorem out_eq (T : T5 tb) (k : Nat) (hx : PyData.strOk x = true) : callAt tb (k + 1) "_law_left_out" [.int i, .str x] cs = .ok (.bl true) cs := by
  rw [call_eq T.out rfl]
  generalize callAt tb k = cl
  have e0 : exs cl (F__law_left_out.body.take 1) [some (.int i), some (.str x), none, none, none] cs = .ok (.nx [some (.int i), some (.str x), some (mL x), none, none]) cs := by kernel_rfl
  have e1 : ex cl (F__law_left_out.body.getD 1 .pass) [some (.int i), some (.str x), some (mL x), none, none] cs = .ok (.nx [some (.int i), some (.str x), some (mL x), none, none]) cs := ne_stmt (v := .lst [.non, .non, .non, .non, .non, .non, .non]) (lc_lst (xs := mLl x) (fun _ => .non) rfl (by
      intro v hv
      simp only [mLl, List.mem_cons, List.not_mem_nil, or_false] at hv
      rcases hv with rfl | rfl | rfl | rfl | rfl | rfl | rfl <;> kernel_rfl) (fun _ _ => rfl) (by rw [szl]; simp [mLl])) (by kernel_rfl) rfl (by decide)
  have e2 : ex cl (F__law_left_out.body.getD 2 .pass) [some (.int i), some (.str x), some (mL x), none, none] cs = .ok (.nx [some (.int i), some (.str x), some (mL x), none, none]) cs := ne_stmt (v := .lst [.non, .str x, .str x]) (by kernel_rfl) (by kernel_rfl) (by simp [qV, qVs, hx]) (by simp [dpV, dpVs])
  have e3 : ex cl (F__law_left_out.body.getD 3 .pass) [some (.int i), some (.str x), some (mL x), none, none] cs = .ok (.nx [some (.int i), some (.str x), some (mL x), none, none]) cs := ne_stmt (v := .lst [.non, .non, .non]) (by kernel_rfl) (by kernel_rfl) rfl (by decide)
  have e4 : exs cl ((F__law_left_out.body.drop 4).take 6) [some (.int i), some (.str x), some (mL x), none, none] cs = .ok (.nx [some (.int i), some (.str x), some (mL x), some (tL i), none]) cs := by kernel_rfl
  have e5 : ev cl (.bin .add (.lst [(.var 0), (.const (.int (7)))]) (.bin .mul (.lst [(.var 0)]) (.const (.int (15))))) [some (.int i), some (.str x), some (mL x), some (tL i), none] cs = .ok (tL i) cs := by kernel_rfl
  have e6 : ev cl (.fld (.mkx "NoPoint" ["name"] [(.var 1)] [.inl 0]) "name" ["NoPoint"]) [some (.int i), some (.str x), some (mL x), some (tL i), none] cs = .ok (.str x) cs := by kernel_rfl
  have q1 : eqVal cs (tL i) (tL i) = some true := eq_same (by simp [tL, qV, qVs]) (by simp [tL, dpV, dpVs])
  show leave cs.length (exs cl (F__law_left_out.body.take 1 ++ (F__law_left_out.body.getD 1 .pass :: F__law_left_out.body.getD 2 .pass :: F__law_left_out.body.getD 3 .pass :: ((F__law_left_out.body.drop 4).take 6 ++ F__law_left_out.body.drop 10))) [some (.int i), some (.str x), none, none, none] cs) = _
  rw [exs_go e0, exs_one e1, exs_one e2, exs_one e3, exs_go e4]
  simp only [F__law_left_out, List.drop_succ_cons, List.drop_zero, exs_cons, exs_nil, ex_ret, ev_and, ev_cmp, e5, e6, R.bind_ok, ev_var, List.getElem?_cons_zero, List.getElem?_cons_succ, slot_some, c_eq, q1, R.of_some, t_bl, cond3_t, eqV_str, decide_true, nxt_rt, lv_bl, take_len]
def m1 (i : Int) : List Val := [.exc "BadRow" ["word", "row"] [.int 3, .int i], .exc "BadSketch" ["number", "part"] [.int i, .str "points"], .exc "BadBlock" ["place"] [.int i], .exc "BadOutline" ["number"] [.int i], .exc "BadFeature" ["number"] [.int i]]
def t1 (i : Int) : Val := .lst [.int i, .int 3, .str "points", .int i, .int i, .int i, .int i]
def m2 (i : Int) (x : Str) : List Val := [.exc "BadField" ["place"] [.tup [.str x, .int i]], .exc "BadTools" ["number"] [.int i], .exc "BadWay" ["number"] [.int i], .exc "BadPaper" ["place"] [.tup [.str x, .int i]], .exc "Clash" ["number"] [.int i]]
def t2 (i : Int) (x : Str) : Val := .lst [.tup [.str x, .int i], .int i, .int i, .tup [.str x, .int i], .int i]
def m3 (i : Int) (x : Str) : List Val := [.exc "NoPoint" ["name"] [.str x], .exc "NoSaying" ["number"] [.int i], .exc "NoFeature" ["number"] [.int i], .exc "NoTool" ["tool"] [.tup [.int i, .int 1]], .exc "Beyond" ["place"] [.tup [.int i, .int 2]], .exc "Blocked" ["place"] [.tup [.int 3, .int i]], .exc "TooDeep" ["place"] [.int i]]
def t3 (i : Int) (x : Str) : Val := .lst [.str x, .int i, .int i, .tup [.int i, .int 1], .tup [.int i, .int 2], .tup [.int 3, .int i], .int i]
def m4 : List Val := [.exc "Twice" [] [], .exc "OutOfPlace" [] [], .exc "TooGreat" [] [], .exc "Nothing" [] [], .exc "NoToolThere" [] [], .exc "Lifted" [] [], .exc "Lowered" [] []]
def dueL : List Val := [.lst [.str "row", .str "ours", .str "value"], .lst [.str "sketch", .str "ours", .str "value"], .lst [.str "block", .str "ours", .str "value"], .lst [.str "outline", .str "ours", .str "value"], .lst [.str "feature", .str "ours", .str "value"], .lst [.str "field", .str "ours", .str "value"], .lst [.str "tools", .str "ours", .str "value"], .lst [.str "way", .str "ours", .str "value"], .lst [.str "paper", .str "ours", .str "value"], .lst [.str "clash", .str "ours", .str "value"], .lst [.str "point", .str "miss", .str "lookup"], .lst [.str "saying", .str "miss", .str "lookup"], .lst [.str "nofeature", .str "miss", .str "lookup"], .lst [.str "tool", .str "miss", .str "lookup"], .lst [.str "beyond", .str "fault", .str "runtime"], .lst [.str "blocked", .str "fault", .str "runtime"], .lst [.str "deep", .str "fault", .str "runtime"], .lst [.str "twice", .str "ours", .str "value"], .lst [.str "place", .str "ours", .str "value"], .lst [.str "great", .str "ours", .str "value"], .lst [.str "nothing", .str "miss", .str "lookup"], .lst [.str "notool", .str "fault", .str "runtime"], .lst [.str "lifted", .str "fault", .str "runtime"], .lst [.str "lowered", .str "fault", .str "runtime"]]
def nmL : Val := .lst [.str "row", .str "sketch", .str "block", .str "outline", .str "feature", .str "field", .str "tools", .str "way", .str "paper", .str "clash"]
theorem hand_eq (T : T5 tb) (k : Nat) (hx : PyData.strOk x = true) : callAt tb (k + 2) "_law_by_hand" [.int i, .str x] cs = .ok (.bl true) cs := by
  rw [call_eq T.hand rfl]
  have e0 : ∀ cl, exs cl (F__law_by_hand.body.take 2) [some (.int i), some (.str x), none, none, none, none, none, none, none, none] cs = .ok (.nx [some (.int i), some (.str x), some (.lst (m1 i)), some (t1 i), none, none, none, none, none, none]) cs := fun cl => by kernel_rfl
  have e1 : ∀ cl, ex cl (F__law_by_hand.body.getD 2 .pass) [some (.int i), some (.str x), some (.lst (m1 i)), some (t1 i), none, none, none, none, none, none] cs = .ok (.nx [some (.int i), some (.str x), some (.lst (m1 i)), some (t1 i), none, none, none, none, none, none]) cs := fun cl => ne_stmt (v := t1 i) (by kernel_rfl) (by kernel_rfl) (by simp [t1, qV, qVs, so_points]) (by simp [t1, dpV, dpVs])
  have e2 : ∀ cl, exs cl ((F__law_by_hand.body.drop 3).take 2) [some (.int i), some (.str x), some (.lst (m1 i)), some (t1 i), none, none, none, none, none, none] cs = .ok (.nx [some (.int i), some (.str x), some (.lst (m1 i)), some (t2 i x), some (.lst (m2 i x)), none, none, none, none, none]) cs := fun cl => by kernel_rfl
  have e3 : ∀ cl, ex cl (F__law_by_hand.body.getD 5 .pass) [some (.int i), some (.str x), some (.lst (m1 i)), some (t2 i x), some (.lst (m2 i x)), none, none, none, none, none] cs = .ok (.nx [some (.int i), some (.str x), some (.lst (m1 i)), some (t2 i x), some (.lst (m2 i x)), none, none, none, none, none]) cs := fun cl => ne_stmt (v := t2 i x) (by kernel_rfl) (by kernel_rfl) (by simp [t2, qV, qVs, hx]) (by simp [t2, dpV, dpVs])
  have e4 : ∀ cl, exs cl ((F__law_by_hand.body.drop 6).take 3) [some (.int i), some (.str x), some (.lst (m1 i)), some (t2 i x), some (.lst (m2 i x)), none, none, none, none, none] cs = .ok (.nx [some (.int i), some (.str x), some (.lst (m1 i)), some (t3 i x), some (.lst (m2 i x)), some (.lst (m3 i x)), none, none, none, none]) cs := fun cl => by kernel_rfl
  have e5 : ∀ cl, ex cl (F__law_by_hand.body.getD 9 .pass) [some (.int i), some (.str x), some (.lst (m1 i)), some (t3 i x), some (.lst (m2 i x)), some (.lst (m3 i x)), none, none, none, none] cs = .ok (.nx [some (.int i), some (.str x), some (.lst (m1 i)), some (t3 i x), some (.lst (m2 i x)), some (.lst (m3 i x)), none, none, none, none]) cs := fun cl => ne_stmt (v := t3 i x) (by kernel_rfl) (by kernel_rfl) (by simp [t3, qV, qVs, hx]) (by simp [t3, dpV, dpVs])
  have e6 : ∀ cl, exs cl ((F__law_by_hand.body.drop 10).take 2) [some (.int i), some (.str x), some (.lst (m1 i)), some (t3 i x), some (.lst (m2 i x)), some (.lst (m3 i x)), none, none, none, none] cs = .ok (.nx [some (.int i), some (.str x), some (.lst (m1 i ++ m2 i x ++ m3 i x ++ m4)), some (t3 i x), some (.lst (m2 i x)), some (.lst (m3 i x)), none, none, none, none]) cs := fun cl => by kernel_rfl
  have e7 : ∀ cl, exs cl ((F__law_by_hand.body.drop 12).take 6) [some (.int i), some (.str x), some (.lst (m1 i ++ m2 i x ++ m3 i x ++ m4)), some (t3 i x), some (.lst (m2 i x)), some (.lst (m3 i x)), none, none, none, none] cs = .ok (.nx [some (.int i), some (.str x), some (.lst (m1 i ++ m2 i x ++ m3 i x ++ m4)), some (t3 i x), some (.lst (m2 i x)), some (.lst (m3 i x)), some nmL, some (.lst dueL), none, none]) cs := fun cl => by kernel_rfl
  show leave cs.length (exs (callAt tb (k + 1)) (F__law_by_hand.body.take 2 ++ (F__law_by_hand.body.getD 2 .pass :: ((F__law_by_hand.body.drop 3).take 2 ++ (F__law_by_hand.body.getD 5 .pass :: ((F__law_by_hand.body.drop 6).take 3 ++ (F__law_by_hand.body.getD 9 .pass :: ((F__law_by_hand.body.drop 10).take 2 ++ ((F__law_by_hand.body.drop 12).take 6 ++ F__law_by_hand.body.drop 18)))))))) [some (.int i), some (.str x), none, none, none, none, none, none, none, none] cs) = _
  rw [exs_go (e0 _), exs_one (e1 _), exs_go (e2 _), exs_one (e3 _), exs_go (e4 _), exs_one (e5 _), exs_go (e6 _), exs_go (e7 _)]
  have kc : ∀ v ∈ m1 i ++ m2 i x ++ m3 i x ++ m4, callAt tb (k + 1) "_law_kinds" [v] cs = .ok (kindsOf v) cs := by
    intro v hv
    simp only [m1, m2, m3, m4, List.cons_append, List.nil_append, List.mem_cons, List.not_mem_nil, or_false] at hv
    rcases hv with rfl | rfl | rfl | rfl | rfl | rfl | rfl | rfl | rfl | rfl | rfl | rfl | rfl | rfl | rfl | rfl | rfl | rfl | rfl | rfl | rfl | rfl | rfl | rfl
    · exact (kd_call T k (fun _ => kd_BadRow) rfl).trans (by rw [ko_BadRow])
    · exact (kd_call T k (fun _ => kd_BadSketch) rfl).trans (by rw [ko_BadSketch])
    · exact (kd_call T k (fun _ => kd_BadBlock) rfl).trans (by rw [ko_BadBlock])
    · exact (kd_call T k (fun _ => kd_BadOutline) rfl).trans (by rw [ko_BadOutline])
    · exact (kd_call T k (fun _ => kd_BadFeature) rfl).trans (by rw [ko_BadFeature])
    · exact (kd_call T k (fun _ => kd_BadField) rfl).trans (by rw [ko_BadField])
    · exact (kd_call T k (fun _ => kd_BadTools) rfl).trans (by rw [ko_BadTools])
    · exact (kd_call T k (fun _ => kd_BadWay) rfl).trans (by rw [ko_BadWay])
    · exact (kd_call T k (fun _ => kd_BadPaper) rfl).trans (by rw [ko_BadPaper])
    · exact (kd_call T k (fun _ => kd_Clash) rfl).trans (by rw [ko_Clash])
    · exact (kd_call T k (fun _ => kd_NoPoint) rfl).trans (by rw [ko_NoPoint])
    · exact (kd_call T k (fun _ => kd_NoSaying) rfl).trans (by rw [ko_NoSaying])
    · exact (kd_call T k (fun _ => kd_NoFeature) rfl).trans (by rw [ko_NoFeature])
    · exact (kd_call T k (fun _ => kd_NoTool) rfl).trans (by rw [ko_NoTool])
    · exact (kd_call T k (fun _ => kd_Beyond) rfl).trans (by rw [ko_Beyond])
    · exact (kd_call T k (fun _ => kd_Blocked) rfl).trans (by rw [ko_Blocked])
    · exact (kd_call T k (fun _ => kd_TooDeep) rfl).trans (by rw [ko_TooDeep])
    · exact (kd_call T k (fun _ => kd_Twice) rfl).trans (by rw [ko_Twice])
    · exact (kd_call T k (fun _ => kd_OutOfPlace) rfl).trans (by rw [ko_OutOfPlace])
    · exact (kd_call T k (fun _ => kd_TooGreat) rfl).trans (by rw [ko_TooGreat])
    · exact (kd_call T k (fun _ => kd_Nothing) rfl).trans (by rw [ko_Nothing])
    · exact (kd_call T k (fun _ => kd_NoToolThere) rfl).trans (by rw [ko_NoToolThere])
    · exact (kd_call T k (fun _ => kd_Lifted) rfl).trans (by rw [ko_Lifted])
    · exact (kd_call T k (fun _ => kd_Lowered) rfl).trans (by rw [ko_Lowered])
  have kl : (m1 i ++ m2 i x ++ m3 i x ++ m4).map kindsOf = dueL := by kernel_rfl
  have lc : ∀ (a8 a9 : Option Val), ev (callAt tb (k + 1)) (.lcomp (.call "_law_kinds" [(.var 9)] [.inl 0]) (.nm 9) .val [(.var 2)] [] [9]) [some (.int i), some (.str x), some (.lst (m1 i ++ m2 i x ++ m3 i x ++ m4)), some (t3 i x), some (.lst (m2 i x)), some (.lst (m3 i x)), some nmL, some (.lst dueL), a8, a9] cs = .ok (.lst dueL) cs := by
    intro a8 a9
    have nrk : ∀ v ∈ m1 i ++ m2 i x ++ m3 i x ++ m4, noRef (kindsOf v) = true := by
      intro v hv
      have hm : kindsOf v ∈ dueL := by rw [← kl]; exact List.mem_map_of_mem hv
      have al : dueL.all noRef = true := by kernel_rfl
      exact List.all_eq_true.mp al _ hm
    have key := lc_lst (cl := callAt tb (k + 1)) (cs := cs) (elt := .call "_law_kinds" [(.var 9)] [.inl 0]) (e := .var 2) (tg := .nm 9) (ifs := []) (own := [9]) (σ := [some (.int i), some (.str x), some (.lst (m1 i ++ m2 i x ++ m3 i x ++ m4)), some (t3 i x), some (.lst (m2 i x)), some (.lst (m3 i x)), some nmL, some (.lst dueL), a8, a9]) kindsOf rfl (fun v hv => by simp [lcStep, wipeS, kc v hv]) nrk (by rw [szl]; simp [m1, m2, m3, m4])
    rw [kl] at key
    exact key
  have q1 : eqVal cs (.lst dueL) (.lst dueL) = some true := eq_same (by kernel_rfl) (by decide +kernel)
  simp only [F__law_by_hand, List.drop_succ_cons, List.drop_zero, exs_cons, exs_nil, ex_ret, ev_cmp, lc, R.bind_ok, ev_var, List.getElem?_cons_zero, List.getElem?_cons_succ, slot_some, c_eq, q1, R.of_some, nxt_rt, lv_bl, take_len]
def s_fig : S := (.asg (.nm 4) (.ix (.lst [(.bin .sub (.call "_law_digit" [(.var 3), (.bin .pow (.const (.int (10))) (.const (.int (9))))] [.inl 0, .inl 1]) (.const (.int (400)))), (.bin .mod (.var 2) (.bin .pow (.const (.int (10))) (.const (.int (60)))))]) (.call "_law_digit" [(.var 3), (.const (.int (2)))] [.inl 0, .inl 1])))
def outer : List S := [(.asg (.nm 3) (.call "_law_draw" [(.var 2), (.var 1)] [.inl 0, .inl 1])), s_fig, (.asg (.nm 5) (.call "_law_word" [(.var 3)] [.inl 0])), (.ite (.or_ (.not_ (.call "_law_by_hand" [(.var 4), (.var 5)] [.inl 0, .inl 1])) (.not_ (.call "_law_left_out" [(.var 4), (.var 5)] [.inl 0, .inl 1]))) [(.ret (.const (.bl false)))] [])]
theorem fig_wp (T : T5 tb) {k n : Nat} {D : Cell} {a0 a1 a4 a5 : Option Val} {c : Int} {Q : Out → Cells → Prop} (hD : Good D (n + 2)) (q : ∀ (i : Int) (D' : Cell), Good D' n → Q (.nx [a0, a1, some (.int c), some (.ref cs.length), some (.int i), a5]) (cs ++ [D'])) :
    Wp (ex (callAt tb (k + 2)) s_fig [a0, a1, some (.int c), some (.ref cs.length), a4, a5] (cs ++ [D])) Q := by
  have p9 : ∀ {cs : Cells}, binop .pow (.int 10) (.int 9) cs = .ok (.int (10 ^ 9)) cs := b_pow (by decide)
  have p60 : ∀ {cs : Cells}, binop .pow (.int 10) (.int 60) cs = .ok (.int (10 ^ 60)) cs := b_pow (by decide)
  have md : ∀ {cs : Cells}, binop .mod (.int c) (.int (10 ^ 60)) cs = .ok (.int (c % 10 ^ 60)) cs := b_mod' (by decide)
  simp only [s_fig, ex_asg, ev_ix, ev_lst, evs_cons, evs_nil, ev_bin, ev_call, ev_var, ev_const, List.getElem?_cons_zero, List.getElem?_cons_succ, slot_some, R.bind_ok, p9, shape_inl, shape_nil, Option.bind_some, Option.map_some, R.of_some, wp_bind]
  refine digit_wp T.mixed T.digit get_last (n := n + 1) hD (by decide) fun d D1 d0 d1 g1 => ?_
  rw [set_last]
  simp only [b_sub, p60, md, wp_ok, R.bind_ok, wp_bind, List.all_cons, List.all_nil, nr_int, Bool.and_self, List.length_cons, List.length_nil, szl, Nat.reduceAdd, Nat.reduceLeDiff, decide_true, if_true]
  refine digit_wp T.mixed T.digit get_last (n := n) g1 (by decide) fun e D2 e0 e1 g2 => ?_
  rw [set_last]
  rcases (by omega : e = 0 ∨ e = 1) with rfl | rfl
  · simp
    exact q _ _ g2
  · simp
    exact q _ _ g2
theorem nm_ok {l : List Nat} (h : Nm l) : PyData.strOk ⟨⟨l⟩⟩ = true := by
  unfold PyData.strOk
  simp
  intro i hi
  have := (h.2.2 i hi).2
  omega
theorem outer_wp (T : T5 tb) {k : Nat} {j c : Int} {a0 a3 a4 a5 : Option Val} {Q : Out → Cells → Prop} (hj : 0 ≤ j ∧ j < 10 ^ 30) (q : ∀ b3 b4 b5 D', Q (.nx [a0, some (.int j), some (.int c), b3, b4, b5]) (cs ++ [D'])) :
    Wp (exs (callAt tb (k + 3)) outer [a0, some (.int j), some (.int c), a3, a4, a5] cs) Q := by
  obtain ⟨D, hD, ed⟩ := draw_eq (cs := cs) T.draw (k + 2) c j hj
  unfold outer
  rw [exs_cons, wp_bind]
  simp [ed, -exs_cons]
  rw [exs_cons, wp_bind]
  refine fig_wp (k := k + 1) (n := 10) T (hD.less (by decide)) fun i D1 g1 => ?_
  simp
  refine word_wp T.mixed T.digit T.word (k := k) (n := 0) get_last g1 fun l D2 hl g2 => ?_
  rw [set_last]
  have h1 := hand_eq (cs := cs ++ [D2]) (i := i) T (k + 1) (nm_ok hl)
  have h2 := out_eq (cs := cs ++ [D2]) (i := i) T (k + 2) (nm_ok hl)
  simp [h1, h2]
  exact q _ _ _ D2
theorem law_true (T : T5 tb) (hL : Has tb "law" F_law) {k : Nat} (ns : List Int) (hn : ns.length ≤ 63) : ∃ cs', callAt tb (k + 4) "law" [.fro (ns.map .int)] [] = .ok (.bl true) cs' := by
  suffices w : Wp (callAt tb (k + 4) "law" [.fro (ns.map .int)] []) fun v _ => v = .bl true by
    obtain ⟨v, cs', e, rfl⟩ := w.ex
    exact ⟨cs', e⟩
  refine call_wp hL rfl ?_
  rw [show F_law.body = .for_ (.tp [(.nm 1), (.nm 2)]) .enum [(.bin .add (.slice (.var 0) (.const .non) (.const (.int (12 : Nat))) false true) (.lst [(.prim .sum [(.var 0)])]))] outer :: F_law.body.drop 1 from rfl, exs_cons, wp_bind]
  refine cells_wp (fun σ => ∃ a1 a2 a3 a4 a5, σ = [some (.fro (ns.map .int)), a1, a2, a3, a4, a5]) hn rfl ⟨_, _, _, _, _, rfl⟩ ?_ ?_
  · rintro σ cs j c ⟨a1, a2, a3, a4, a5, rfl⟩ j0 j1
    refine outer_wp (k := k) T ⟨j0, j1⟩ fun b3 b4 b5 D' => ?_
    exact ⟨_, _, _, _, _, rfl⟩
  · rintro σ cs ⟨a1, a2, a3, a4, a5, rfl⟩
    simp [F_law]
end
end K05L

theorem K05.tbs : K05L.T5 (Ps.tbOf 200 K05.G K05.ls) := ⟨by kernel_rfl, by kernel_rfl, by kernel_rfl, by kernel_rfl, by kernel_rfl, by kernel_rfl, by kernel_rfl⟩
theorem PySem.Challenge.cw_panelworks_k05_refusals_by_hand_holds : PySem.Challenge.rw_panelworks_k05_refusals_by_hand.Holds := by
  exact K05.holds_of fun ns hn => K05L.law_true K05.tbs (by kernel_rfl) (k := 36) ns hn

