import PyProof.Rows.All
import Wide.All
import OpenK.AllK
import Wide.FinOn
import HandS.ForMost
import HandS.ForExc
import HandS.TryMany
import HandS.ExcInit
import HandS.ExcIs
import HandS.Deep
import HandS.TupAny
import HandS.IsInst
import HandS.Defaults
import HandS.More
import HandS.Flow
import HandS.FStr
import HandS.StrMore
import HandS.WordsExc
import HandS.Conv
import HandS.TupLe
import HandS.Codes
import HandS.RaiseMore
import HandS.CallSlots
import HandS.Ends
import PyProof.Rows.ReprR
import KE.IntTextLaws
import KE.KExcIs
import HandS.ExcField
import HandS.Head0
import HandS.Head1
import HandS.Head2
import HandS.HeadEnd
import HandS.HeadHook1
import HandS.HeadHook2
import PyProof.ReprLen
import PyProof.StrLawsRepr
import KE.KStateDown
import Lean
import HandS.Base
import HandS.Call
import HandS.Words
import PySem.Challenge.RW_amendedwords_k04_validate_act
set_option Elab.async false
set_option linter.all false
set_option maxRecDepth 100000
set_option maxHeartbeats 0
/-! MpA: a small definitional interpreter for the Python of this program. -/
namespace L2.MP
open PySem

/-! ### values -/
inductive D where
  | non | bl (b : Bool) | int (i : Int) | str (s : List Nat)
  | tup (xs : List D) | lst (xs : List D)
  | ref (i : Nat)
  | exn (c : Nat) (fs : List D)
  | dic (ks vs : List D)
  | scr (ns : List Int)
  deriving Inhabited, Repr
mutual
def D.beq : D → D → Bool
  | .non, .non => true
  | .bl a, .bl b => a == b
  | .int a, .int b => a == b
  | .str a, .str b => a == b
  | .tup a, .tup b => D.beqs a b
  | .lst a, .lst b => D.beqs a b
  | .ref a, .ref b => a == b
  | .exn a x, .exn b y => a == b && D.beqs x y
  | .dic a x, .dic b y => D.beqs a b && D.beqs x y
  | .scr a, .scr b => a == b
  | _, _ => false
def D.beqs : List D → List D → Bool
  | [], [] => true
  | x :: xs, y :: ys => D.beq x y && D.beqs xs ys
  | _, _ => false
end
mutual
theorem D.beq_eq : ∀ {a b : D}, D.beq a b = true → a = b
  | .non, b, h => by cases b <;> simp [D.beq] at h ⊢
  | .bl a, b, h => by cases b <;> simp [D.beq] at h ⊢; exact h
  | .int a, b, h => by cases b <;> simp [D.beq] at h ⊢; exact h
  | .str a, b, h => by cases b <;> simp [D.beq] at h ⊢; exact h
  | .tup a, b, h => by cases b <;> simp [D.beq] at h ⊢; exact D.beqs_eq h
  | .lst a, b, h => by cases b <;> simp [D.beq] at h ⊢; exact D.beqs_eq h
  | .ref a, b, h => by cases b <;> simp [D.beq] at h ⊢; exact h
  | .exn a x, b, h => by
    cases b <;> simp [D.beq] at h ⊢
    exact ⟨h.1, D.beqs_eq h.2⟩
  | .dic a x, b, h => by
    cases b <;> simp [D.beq] at h ⊢
    exact ⟨D.beqs_eq h.1, D.beqs_eq h.2⟩
  | .scr a, b, h => by cases b <;> simp [D.beq] at h ⊢; exact h
theorem D.beqs_eq : ∀ {a b : List D}, D.beqs a b = true → a = b
  | [], b, h => by cases b <;> simp [D.beqs] at h ⊢
  | x :: xs, b, h => by
    cases b <;> simp [D.beqs] at h ⊢
    exact ⟨D.beq_eq h.1, D.beqs_eq h.2⟩
end
mutual
theorem D.beq_refl : ∀ a : D, D.beq a a = true
  | .non => by simp [D.beq]
  | .bl a => by simp [D.beq]
  | .int a => by simp [D.beq]
  | .str a => by simp [D.beq]
  | .tup a => by simp [D.beq, D.beqs_refl a]
  | .lst a => by simp [D.beq, D.beqs_refl a]
  | .ref a => by simp [D.beq]
  | .exn a x => by simp [D.beq, D.beqs_refl x]
  | .dic a x => by simp [D.beq, D.beqs_refl a, D.beqs_refl x]
  | .scr a => by simp [D.beq]
theorem D.beqs_refl : ∀ a : List D, D.beqs a a = true
  | [] => by simp [D.beqs]
  | x :: xs => by simp [D.beqs, D.beq_refl x, D.beqs_refl xs]
end
instance : DecidableEq D := fun a b =>
  if h : D.beq a b = true then .isTrue (D.beq_eq h) else .isFalse fun e => h (e ▸ D.beq_refl a)

/-- a node: a thing that may change -/
inductive Nd where
  | lst (xs : List D)
  deriving DecidableEq, Inhabited, Repr
abbrev Hs := List Nd
abbrev Sl := List (Option D)

/-! ### results -/
inductive R (α : Type) where
  | ok (a : α) (h : Hs)
  | exc (c : Nat) (fs : List D) (h : Hs)
  | bad
  deriving Repr
def R.bind {α β : Type} (r : R α) (f : α → Hs → R β) : R β := match r with
  | .ok a h => f a h
  | .exc c fs h => .exc c fs h
  | .bad => .bad
/-- no exception comes out -/
def R.nox {α : Type} (r : R α) : R α := match r with
  | .ok a h => .ok a h
  | _ => .bad
def R.of {α : Type} (o : Option α) (h : Hs) : R α := match o with
  | some a => .ok a h
  | none => .bad

/-! ### sizes -/
def lim : Nat := 1000000
/-- signs -/
def okS (s : List Nat) : Prop := ∀ c ∈ s, c < 1114112
def okB (s : List Nat) : Bool := s.all fun c => decide (c < 1114112)
theorem okB_ok {s : List Nat} (h : okB s = true) : okS s := fun c hc => of_decide_eq_true (List.all_eq_true.mp h c hc)

/-! ### looking at values -/
def seqN : Nd → Option (List D)
  | .lst xs => some xs
/-- a list -/
def lstV (h : Hs) : D → Option (List D)
  | .lst xs => some xs
  | .ref i => (h[i]?).bind seqN
  | _ => none
/-- a list or a tuple -/
def seqV (h : Hs) : D → Option (List D)
  | .lst xs => some xs
  | .tup xs => some xs
  | .ref i => (h[i]?).bind seqN
  | _ => none
def truD (h : Hs) : D → Option Bool
  | .non => some false
  | .bl b => some b
  | .int i => some (decide (i ≠ 0))
  | .str s => if s.length ≤ lim then some (!s.isEmpty) else none
  | .tup xs => some (!xs.isEmpty)
  | .lst xs => some (!xs.isEmpty)
  | .ref i => ((h[i]?).bind seqN).map fun xs => !xs.isEmpty
  | .exn _ _ => none
  | .dic ks _ => some (!ks.isEmpty)
  | .scr _ => none
/-- every reference read: n deep; w: dicts too -/
def mapO {α β : Type} (f : α → Option β) : List α → Option (List β)
  | [] => some []
  | x :: xs => (f x).bind fun y => (mapO f xs).bind fun ys => some (y :: ys)
def deep (w : Bool) (h : Hs) : Nat → D → Option D
  | 0, _ => none
  | n + 1, .tup xs => (mapO (deep w h n) xs).map .tup
  | n + 1, .lst xs => (mapO (deep w h n) xs).map .lst
  | n + 1, .ref i => ((h[i]?).bind seqN).bind fun xs => (mapO (deep w h n) xs).map .lst
  | _ + 1, .exn _ _ => none
  | _ + 1, .scr _ => none
  | n + 1, .dic ks vs => if w then (mapO (deep w h n) ks).bind fun ks => (mapO (deep w h n) vs).map (.dic ks) else none
  | _ + 1, d => some d
mutual
/-- == of plain values -/
def eqT : D → D → Bool
  | .non, .non => true
  | .bl a, .bl b => a == b
  | .bl a, .int j => (if a then 1 else 0) == j
  | .int i, .bl b => i == (if b then 1 else 0)
  | .int a, .int b => a == b
  | .str a, .str b => a == b
  | .tup a, .tup b => eqTs a b
  | .lst a, .lst b => eqTs a b
  | _, _ => false
def eqTs : List D → List D → Bool
  | [], [] => true
  | x :: xs, y :: ys => eqT x y && eqTs xs ys
  | _, _ => false
end
def eqD (h : Hs) (x y : D) : Option Bool := (deep false h 40 x).bind fun a => (deep false h 40 y).bind fun b => some (eqT a b)
mutual
def toPD : D → Option PyData
  | .non => some .none
  | .bl b => some (.bool b)
  | .int i => some (.int i)
  | .str s => some (.str ⟨s.toArray⟩)
  | .tup xs => (toPDs xs).map .tuple
  | .lst xs => (toPDs xs).map .list
  | .ref _ => none
  | .exn _ _ => none
  | .scr _ => none
  | .dic ks vs => (toPDs ks).bind fun ks => (toPDs vs).map fun vs => .dict (ks.zip vs)
def toPDs : List D → Option (List PyData)
  | [] => some []
  | x :: xs => (toPD x).bind fun d => (toPDs xs).bind fun ds => some (d :: ds)
end

/-! ### operations -/
def strS (s : String) : List Nat := (Str.ofString s).cps.toList
def intS (i : Int) : List Nat := strS (toString i)
def binD (op : Operator) (x y : D) (h : Hs) : R D := match op, x, y with
  | .Add, .int i, .int j => .ok (.int (i + j)) h
  | .Add, .str s, .str t => if s.length + t.length ≤ lim then .ok (.str (s ++ t)) h else .bad
  | .Add, .tup s, .tup t => if s.length + t.length ≤ lim then .ok (.tup (s ++ t)) h else .bad
  | .Add, a, b => (R.of (lstV h a) h).bind fun s h => (R.of (lstV h b) h).bind fun t h => if s.length + t.length ≤ lim then .ok (.lst (s ++ t)) h else .bad
  | .Sub, .int i, .int j => .ok (.int (i - j)) h
  | .Mult, .int i, .int j => if -(2 ^ 64) < i ∧ i < 2 ^ 64 then .ok (.int (i * j)) h else .bad
  | .Mult, a, .int j => (R.of (lstV h a) h).bind fun s h => if 0 ≤ j ∧ j < 1000 ∧ s.length * j.toNat ≤ lim then .ok (.lst (List.replicate j.toNat s).flatten) h else .bad
  | .FloorDiv, .int i, .int j => if 0 < j ∧ j < 1073741824 then .ok (.int (i / j)) h else .bad
  | .Mod, .int i, .int j => if 0 < j then .ok (.int (i % j)) h else .bad
  | .Pow, .int i, .int j => if 0 ≤ j ∧ j ≤ 1000 ∧ i.natAbs < 2 ^ 64 then .ok (.int (i ^ j.toNat)) h else .bad
  | .LShift, .int i, .int j => if 0 ≤ j ∧ j ≤ 1000 ∧ i.natAbs < 2 ^ 64 then .ok (.int (i * 2 ^ j.toNat)) h else .bad
  | .RShift, .int i, .int j => if 0 ≤ j then .ok (.int (i / 2 ^ j.toNat)) h else .bad
  | .BitAnd, .int i, .int j => .ok (.int (Builtin.bitAnd i j)) h
  | _, _, _ => .bad
def inD (h : Hs) (x y : D) : Option Bool := match y with
  | .str s => (match x with
    | .str [c] => some (decide (c ∈ s))
    | _ => none)
  | _ => (deep false h 40 x).bind fun a => (seqV h y).bind fun ys => (mapO (deep false h 40) ys).bind fun bs => some (bs.any fun z => eqT z a)
def cmpD (h : Hs) (op : CmpOp) (x y : D) : Option Bool := match op with
  | .Eq => eqD h x y
  | .NotEq => (eqD h x y).map (!·)
  | .In => inD h x y
  | .NotIn => (inD h x y).map (!·)
  | .Is => match y with
    | .non => some (match x with | .non => true | _ => false)
    | .bl b => (match x with
      | .bl a => some (decide (a = b))
      | _ => none)
    | _ => none
  | .IsNot => match y with
    | .non => some (match x with | .non => false | _ => true)
    | .bl b => (match x with
      | .bl a => some (!decide (a = b))
      | _ => none)
    | _ => none
  | .Lt => match x, y with
    | .int i, .int j => some (decide (i < j))
    | _, _ => none
  | .LtE => match x, y with
    | .int i, .int j => some (decide (i ≤ j))
    | _, _ => none
  | .Gt => match x, y with
    | .int i, .int j => some (decide (j < i))
    | _, _ => none
  | .GtE => match x, y with
    | .int i, .int j => some (decide (j ≤ i))
    | _, _ => none
def ixD (h : Hs) (x i : D) : Option D := match i with
  | .int k => (match x with
    | .str s => if s.length ≤ lim then (L2.atI s k).map fun c => .str [c] else none
    | .scr ns => (L2.atI ns k).map .int
    | _ => (seqV h x).bind fun xs => L2.atI xs k)
  | _ => none
def cutL {α : Type} (xs : List α) (lo hi : Option Int) : List α := (xs.drop (HT.sIx xs.length 0 lo)).take (HT.sIx xs.length xs.length hi - HT.sIx xs.length 0 lo)
def slD (h : Hs) (x : D) (lo hi : Option Int) : Option D := match x with
  | .str s => if s.length ≤ lim then some (.str (cutL s lo hi)) else none
  | .tup xs => some (.tup (cutL xs lo hi))
  | _ => (lstV h x).map fun xs => .lst (cutL xs lo hi)

/-! ### built-in functions, methods, types -/
inductive BI where | len | repr | str | int | tuple | list | all | any | sum | max | min | sorted
  deriving DecidableEq, Repr
inductive MT where | split | splitN | join | upper | partition | isdigit | append | extend | index | count
  deriving DecidableEq, Repr
inductive Ty where | int | bool | str | tuple | list | dict | own (c : Nat) | err (n : String)
  deriving DecidableEq, Repr
def splitL (c : Nat) : List Nat → List (List Nat)
  | [] => [[]]
  | x :: xs => if x = c then [] :: splitL c xs else match splitL c xs with
    | [] => [[x]]
    | w :: ws => (x :: w) :: ws
def joinL (c : List Nat) : List (List Nat) → List Nat
  | [] => []
  | [w] => w
  | w :: ws => w ++ c ++ joinL c ws
def strsO : List D → Option (List (List Nat)) := mapO fun d => match d with
  | .str s => some s
  | _ => none
def intsO : List D → Option (List Int) := mapO fun d => match d with
  | .int s => some s
  | _ => none
def boolsO : List D → Option (List Bool) := mapO fun d => match d with
  | .bl s => some s
  | _ => none
def lstOf (nd : Bool) (xs : List D) (h : Hs) : R D := if nd then .ok (.ref h.length) (h ++ [.lst xs]) else .ok (.lst xs) h
def digit (c : Nat) : Bool := decide (48 ≤ c ∧ c ≤ 57)
def natOf : List Nat → Nat → Nat
  | [], n => n
  | c :: cs, n => natOf cs (10 * n + (c - 48))
def strLe (s t : List Nat) : Bool := !decide (t < s)
def biD (b : BI) (nd : Bool) (vs : List D) (h : Hs) : R D := match b, vs with
  | .len, [x] => (match x with
    | .str s => if s.length ≤ lim then .ok (.int s.length) h else .bad
    | .scr ns => .ok (.int ns.length) h
    | _ => (R.of (seqV h x) h).bind fun xs h => .ok (.int xs.length) h)
  | .repr, [x] => (R.of ((deep true h 40 x).bind toPD) h).bind fun d h => if d.showable = true ∧ d.shown.length ≤ lim ∧ okB d.shown.cps.toList = true then .ok (.str d.shown.cps.toList) h else .bad
  | .str, [x] => (match x with
    | .str s => .ok (.str s) h
    | .int i => if i.natAbs.log2 < 1920 then .ok (.str (intS i)) h else .bad
    | _ => .bad)
  | .int, [x] => (match x with
    | .int i => .ok (.int i) h
    | .bl b => .ok (.int (if b then 1 else 0)) h
    | .str s => if s.all digit ∧ s ≠ [] ∧ s.length ≤ 600 then .ok (.int (natOf s 0)) h else .bad
    | _ => .bad)
  | .tuple, [x] => (R.of (seqV h x) h).bind fun xs h => .ok (.tup xs) h
  | .list, [x] => (R.of (seqV h x) h).bind fun xs h => lstOf nd xs h
  | .all, [x] => (R.of ((lstV h x).bind boolsO) h).bind fun bs h => .ok (.bl (bs.all id)) h
  | .any, [x] => (R.of ((lstV h x).bind boolsO) h).bind fun bs h => .ok (.bl (bs.any id)) h
  | .sum, [x] => (R.of ((lstV h x).bind intsO) h).bind fun bs h => .ok (.int bs.sum) h
  | .max, [.int i, .int j] => .ok (.int (if j > i then j else i)) h
  | .min, [.int i, .int j] => .ok (.int (if j < i then j else i)) h
  | .sorted, [x] => (R.of ((seqV h x).bind strsO) h).bind fun bs h => if bs.length ≤ 60 then lstOf nd ((bs.mergeSort strLe).map .str) h else .bad
  | _, _ => .bad
def partS (c : Nat) : List Nat → Option (List Nat × List Nat)
  | [] => none
  | x :: xs => if x = c then some ([], xs) else (partS c xs).map fun p => (x :: p.1, p.2)
def upC (c : Nat) : Nat := if 97 ≤ c ∧ c ≤ 122 then c - 32 else c
def ascii (s : List Nat) : Bool := s.all fun c => decide (c < 128)
def mtD (m : MT) (o : D) (vs : List D) (h : Hs) : R D := match m, o, vs with
  | .split, .str s, [.str [c]] => if c < 256 ∧ s.length + 2 ≤ lim then .ok (.lst ((splitL c s).map .str)) h else .bad
  | .splitN, .str s, [.str [c]] => if c < 256 ∧ s.length + 2 ≤ lim then lstOf true ((splitL c s).map .str) h else .bad
  | .join, .str s, [x] => (R.of ((seqV h x).bind strsO) h).bind fun ws h => if (joinL s ws).length + s.length ≤ lim then .ok (.str (joinL s ws)) h else .bad
  | .upper, .str s, [] => if ascii s = true ∧ s.length ≤ lim then .ok (.str (s.map upC)) h else .bad
  | .partition, .str s, [.str [c]] => if s.length ≤ lim then (match partS c s with
    | some (a, b) => .ok (.tup [.str a, .str [c], .str b]) h
    | none => .ok (.tup [.str s, .str [], .str []]) h) else .bad
  | .isdigit, .str s, [] => if ascii s = true ∧ s.length ≤ lim then .ok (.bl (!s.isEmpty && s.all digit)) h else .bad
  | .append, .ref i, [x] => (match h[i]? with
    | some (.lst xs) => if xs.length < lim then .ok .non (h.set i (.lst (xs ++ [x]))) else .bad
    | none => .bad)
  | .extend, .ref i, [x] => (match h[i]? with
    | some (.lst xs) => (R.of (seqV h x) h).bind fun ys h => if xs.length + ys.length < lim then .ok .non (h.set i (.lst (xs ++ ys))) else .bad
    | none => .bad)
  | .index, .str s, [.str [c]] => (match partS c s with
      | some (a, _) => if s.length ≤ lim then .ok (.int a.length) h else .bad
      | none => .bad)
  | .index, o, [x] => (R.of (deep false h 40 x) h).bind fun a h => (R.of (lstV h o) h).bind fun ys h => (R.of (mapO (deep false h 40) ys) h).bind fun bs h =>
      (R.of (bs.findIdx? fun z => eqT z a) h).bind fun k h => .ok (.int (k : Nat)) h
  | .count, .tup xs, [.bl b] => (R.of (boolsO xs) h).bind fun bs h => .ok (.int (bs.count b)) h
  | _, _, _ => .bad
/-- has the value this method? (looked up ahead of the arguments) -/
def mtTy : MT → D → Bool
  | .append, .ref _ => true
  | .extend, .ref _ => true
  | .index, .ref _ => true
  | .index, .lst _ => true
  | .index, .str _ => true
  | .split, .str _ => true
  | .splitN, .str _ => true
  | .join, .str _ => true
  | .upper, .str _ => true
  | .partition, .str _ => true
  | .isdigit, .str _ => true
  | _, _ => false
/-- the classes of the program's exceptions: the built-in base -/
structure Gl where
  gls : List D
  exb : List String
  flc : List Nat
  fls : List (List (List Nat))
def isTy (G : Gl) (h : Hs) (x : D) : Ty → Option Bool
  | .own c => match x with
    | .exn k _ => some (k == c)
    | _ => none
  | .err n => match x with
    | .exn k _ => (G.exb[k]?).map (· == n)
    | _ => none
  | t => match x with
    | .non => some false
    | .bl _ => some (t == .bool || t == .int)
    | .int _ => some (t == .int)
    | .str _ => some (t == .str)
    | .tup _ => some (t == .tuple)
    | .lst _ => some (t == .list)
    | .ref i => ((h[i]?).bind seqN).map fun _ => t == .list
    | .exn _ _ => none
    | .dic _ _ => some (t == .dict)
    | .scr _ => none
def isTys (G : Gl) (h : Hs) (x : D) : List Ty → Option Bool
  | [] => some false
  | t :: ts => (isTy G h x t).bind fun b => if b then some true else isTys G h x ts

/-! ### the text -/
inductive Md where | raw | pure | root
  deriving DecidableEq, Repr
inductive T where
  | nm (i : Nat) | tp (ts : List T) | st (i : Nat) (nd : Bool)
  deriving Inhabited, Repr
mutual
inductive E where
  | cst (d : D) | var (i : Nat) | glb (i : Nat)
  | bin (op : Operator) (a b : E) | neg (a : E)
  | cmp (op : CmpOp) (a b : E) | chn (op op2 : CmpOp) (a b c : E)
  | and (a b : E) | or (a b : E) | not (a : E) | ifx (c a b : E)
  | tup (es : List E) | lst (es : List E) (nd : Bool) | emp
  | ix (a i : E) | sl (a : E) (lo hi : Option E)
  | lc (own : List Nat) (t : T) (it : I) (c : Option E) (elt : E) (nd : Bool)
  | lc2 (own own1 : List Nat) (t : T) (it : I) (t1 : T) (it1 : I) (elt : E) (nd : Bool)
  | call (f : Nat) (es : List E) (md : Md)
  | bi (b : BI) (es : List E) (nd : Bool)
  | mt (m : MT) (o : E) (es : List E)
  | isi (a : E) (ts : List Ty)
  | fstr (ps : List E)
  | fld (a : E) (f : List Nat)
  deriving Inhabited, Repr
inductive I where
  | ex (e : E) | range (lo hi : E) | enum (e : E) (k : Int) | zip (a b : E)
  deriving Inhabited, Repr
end
mutual
inductive S where
  | asg (t : T) (e : E)
  | sto (o i e : E)
  | aug (i : Nat) (op : Operator) (e : E)
  | ex (e : E)
  | ret (e : Option E)
  | ite (c : E) (a b : List S)
  | for_ (t : T) (it : I) (body : List S)
  | whl (c : E) (body : List S)
  | rais (c : Nat) (es : List E)
  | try_ (body : List S) (hs : List Hd)
  | pass | brk | cnt
  deriving Inhabited, Repr
inductive Hd where
  | mk (cs : List Nat) (i : Option Nat) (suite : List S)
  deriving Inhabited, Repr
end
structure Fn where
  np : Nat
  ns : Nat
  body : List S
  deriving Repr

/-! ### expressions -/
def wipeS (sl : Sl) : List Nat → Sl
  | [] => sl
  | v :: vs => (wipeS sl vs).set v none
mutual
def asgT (h : Hs) : T → D → Sl → Option Sl
  | .nm i, d, sl => some (sl.set i (some d))
  | .tp ts, d, sl => (match d with
    | .tup ds => asgTs h ts ds sl
    | _ => none)
  | .st _ _, _, _ => none
def asgTs (h : Hs) : List T → List D → Sl → Option Sl
  | [], [], sl => some sl
  | t :: ts, d :: ds, sl => (asgT h t d sl).bind fun sl => asgTs h ts ds sl
  | _, _, _ => none
end
/-- a, *b = .. -/
def asgStar (h : Hs) (t : T) (d : D) (sl : Sl) : R Sl := match t with
  | .tp ts => (match ts.getLast? with
    | some (.st i nd) => (match seqV h d with
      | some ds => if ts.length - 1 ≤ ds.length then
          (R.of (asgTs h ts.dropLast (ds.take (ts.length - 1)) sl) h).bind fun sl h => (lstOf nd (ds.drop (ts.length - 1)) h).bind fun v h => .ok (sl.set i (some v)) h
        else .bad
      | none => .bad)
    | _ => R.of (asgT h t d sl) h)
  | _ => R.of (asgT h t d sl) h
/-- nodes that are gone through, with what they hold -/
abbrev Src := List (Nat × List D)
def chk (s : Src) (h : Hs) : Bool := s.all fun p => match h[p.1]? with
  | some (.lst ys) => decide (ys = p.2)
  | none => false
def srcOf (d : D) (xs : List D) : Src := match d with
  | .ref i => [(i, xs)]
  | _ => []
def mapR (s : Src) (f : D → Hs → R (Option D)) : List D → Hs → R (List D)
  | [], h => if chk s h then .ok [] h else .bad
  | x :: xs, h => if chk s h then (f x h).bind fun o h => (mapR s f xs h).bind fun ys h => match o with
    | some y => .ok (y :: ys) h
    | none => .ok ys h else .bad
def flatR (s : Src) (f : D → Hs → R (List D)) : List D → Hs → R (List D)
  | [], h => if chk s h then .ok [] h else .bad
  | x :: xs, h => if chk s h then (f x h).bind fun o h => (flatR s f xs h).bind fun ys h => .ok (o ++ ys) h else .bad
def rangeL (lo : Int) (n : Nat) : List D := (List.range n).map fun k => .int (lo + (k : Nat))
def enumL (k : Int) : List D → List D
  | [] => []
  | x :: xs => .tup [.int k, x] :: enumL (k + 1) xs
def zipL : List D → List D → List D
  | x :: xs, y :: ys => .tup [x, y] :: zipL xs ys
  | _, _ => []
/-- what is frozen at a def's end: the nodes from n on, but x -/
def frz (h : Hs) (n x : Nat) : Nat → D → Option D
  | 0, _ => none
  | k + 1, .tup xs => (mapO (frz h n x k) xs).map .tup
  | k + 1, .lst xs => (mapO (frz h n x k) xs).map .lst
  | k + 1, .ref i => if i < n then some (.ref i) else if i = x then none else ((h[i]?).bind seqN).bind fun xs => (mapO (frz h n x k) xs).map .lst
  | _ + 1, .exn _ _ => none
  | _ + 1, .scr _ => none
  | _ + 1, d => some d
def endCall (md : Md) (h0 : Hs) (r : R D) : R D := match md with
  | .raw => r
  | .pure => (match r with
    | .ok d h => if h.take h0.length = h0 then (R.of (frz h h0.length h.length 40 d) h0) else .bad
    | .exc c fs h => if h.take h0.length = h0 then (match mapO (frz h h0.length h.length 40) fs with
      | some fs => .exc c fs h0
      | none => .bad) else .bad
    | .bad => .bad)
  | .root => (match r with
    | .ok (.ref i) h => if h.take h0.length = h0 ∧ h0.length ≤ i then (match h[i]? with
      | some (.lst xs) => (match mapO (frz h h0.length i 40) xs with
        | some xs => .ok (.ref h0.length) (h0 ++ [.lst xs])
        | none => .bad)
      | none => .bad) else .bad
    | .exc c fs h => if h.take h0.length = h0 then (match mapO (frz h h0.length h.length 40) fs with
      | some fs => .exc c fs h0
      | none => .bad) else .bad
    | _ => .bad)
section
variable (G : Gl) (C : Nat → List D → Hs → R D)
mutual
def evE : E → Sl → Hs → R D
  | .cst d, _, h => .ok d h
  | .var i, sl, h => (match sl[i]? with
    | some (some d) => .ok d h
    | _ => .bad)
  | .glb i, _, h => R.of (G.gls[i]?) h
  | .bin op a b, sl, h => (evE a sl h).bind fun x h => (evE b sl h).bind fun y h => binD op x y h
  | .neg a, sl, h => (evE a sl h).bind fun x h => (match x with
    | .int i => .ok (.int (-i)) h
    | _ => .bad)
  | .cmp op a b, sl, h => (evE a sl h).bind fun x h => (evE b sl h).bind fun y h => (R.of (cmpD h op x y) h).bind fun b h => .ok (.bl b) h
  | .chn op op2 a b c, sl, h => (evE a sl h).bind fun x h => (evE b sl h).bind fun y h => (R.of (cmpD h op x y) h).bind fun t h =>
      if t then (evE c sl h).bind fun z h => (R.of (cmpD h op2 y z) h).bind fun b h => .ok (.bl b) h else .ok (.bl false) h
  | .and a b, sl, h => (evE a sl h).bind fun x h => (R.of (truD h x) h).bind fun t h => if t then evE b sl h else .ok x h
  | .or a b, sl, h => (evE a sl h).bind fun x h => (R.of (truD h x) h).bind fun t h => if t then .ok x h else evE b sl h
  | .not a, sl, h => (evE a sl h).bind fun x h => (R.of (truD h x) h).bind fun t h => .ok (.bl (!t)) h
  | .ifx c a b, sl, h => (evE c sl h).bind fun x h => (R.of (truD h x) h).bind fun t h => if t then evE a sl h else evE b sl h
  | .tup es, sl, h => (evEs es sl h).bind fun vs h => .ok (.tup vs) h
  | .lst es nd, sl, h => (evEs es sl h).bind fun vs h => lstOf nd vs h
  | .emp, _, h => .ok (.dic [] []) h
  | .ix a i, sl, h => (evE a sl h).bind fun x h => (evE i sl h).bind fun y h => R.of (ixD h x y) h
  | .sl a lo hi, sl, h => (evE a sl h).bind fun x h => (evO lo sl h).bind fun l h => (evO hi sl h).bind fun u h => R.of (slD h x l u) h
  | .lc own t it c elt nd, sl, h => (evI it sl h).bind fun xs h => if xs.1.length < lim then ((mapR xs.2 (fun x h => (R.of (asgT h t x (wipeS sl own)) h).bind fun sl2 h => (evC c sl2 h).bind fun ok h =>
      if ok then (evE elt sl2 h).bind fun y h => .ok (some y) h else .ok none h) xs.1 h).nox).bind fun ys h => lstOf nd ys h else .bad
  | .lc2 own own1 t it t1 it1 elt nd, sl, h => (evI it sl h).bind fun xs h => ((flatR xs.2 (fun x h => (R.of (asgT h t x (wipeS sl own)) h).bind fun sl2 h => (evI it1 sl2 h).bind fun ys h =>
      mapR ys.2 (fun y h => (R.of (asgT h t1 y (wipeS sl2 own1)) h).bind fun sl3 h => (evE elt sl3 h).bind fun z h => .ok (some z) h) ys.1 h) xs.1 h).nox).bind fun ys h => lstOf nd ys h
  | .call f es md, sl, h => (evEs es sl h).bind fun vs h => endCall md h (C f vs h)
  | .bi b es nd, sl, h => (evEs es sl h).bind fun vs h => biD b nd vs h
  | .mt m o es, sl, h => (evE o sl h).bind fun x h => if mtTy m x then (evEs es sl h).bind fun vs h => mtD m x vs h else .bad
  | .isi a ts, sl, h => (evE a sl h).bind fun x h => (R.of (isTys G h x ts) h).bind fun b h => .ok (.bl b) h
  | .fstr ps, sl, h => (evEs ps sl h).bind fun vs h => (R.of (mapO (fun d => match d with
      | .str s => some s
      | .int i => if i.natAbs.log2 < 1920 then some (intS i) else none
      | _ => none) vs) h).bind fun ws h => if ws.flatten.length ≤ lim then .ok (.str ws.flatten) h else .bad
  | .fld a f, sl, h => (evE a sl h).bind fun x h => (match x with
    | .exn c fs => R.of ((G.fls[c]?).bind fun ns => (ns.zip fs).lookup f) h
    | _ => .bad)
termination_by structural e => e
def evEs : List E → Sl → Hs → R (List D)
  | [], _, h => .ok [] h
  | e :: es, sl, h => (evE e sl h).bind fun x h => (evEs es sl h).bind fun xs h => .ok (x :: xs) h
termination_by structural e => e
def evO : Option E → Sl → Hs → R (Option Int)
  | none, _, h => .ok none h
  | some e, sl, h => (evE e sl h).bind fun x h => (match x with
    | .int i => .ok (some i) h
    | _ => .bad)
termination_by structural e => e
def evC : Option E → Sl → Hs → R Bool
  | none, _, h => .ok true h
  | some e, sl, h => (evE e sl h).bind fun x h => R.of (truD h x) h
termination_by structural e => e
def evI : I → Sl → Hs → R (List D × Src)
  | .ex e, sl, h => (evE e sl h).bind fun x h => (match x with
    | .str s => .ok (s.map fun c => .str [c], []) h
    | _ => (R.of (seqV h x) h).bind fun xs h => .ok (xs, srcOf x xs) h)
  | .range a b, sl, h => (evE a sl h).bind fun x h => (evE b sl h).bind fun y h => (match x, y with
    | .int i, .int j => if -1000000 ≤ i ∧ i ≤ 1000000 ∧ -1000000 ≤ j ∧ j ≤ 1000000 then .ok (rangeL i (j - i).toNat, []) h else .bad
    | _, _ => .bad)
  | .enum e k, sl, h => (evE e sl h).bind fun x h => (R.of (lstV h x) h).bind fun xs h => .ok (enumL k xs, srcOf x xs) h
  | .zip a b, sl, h => (evE a sl h).bind fun x h => (evE b sl h).bind fun y h => (R.of (seqV h x) h).bind fun xs h => (R.of (seqV h y) h).bind fun ys h =>
      if xs.length = ys.length then .ok (zipL xs ys, srcOf x xs ++ srcOf y ys) h else .bad
termination_by structural e => e
end

/-! ### statements -/
inductive F where | nx | rt (d : D) | bk | ct
  deriving Repr
inductive Q where
  | ok (f : F) (sl : Sl) (h : Hs)
  | exc (c : Nat) (fs : List D) (sl : Sl) (h : Hs)
  | bad
  deriving Repr
def Q.bind (q : Q) (f : Sl → Hs → Q) : Q := match q with
  | .ok .nx sl h => f sl h
  | q => q
def R.q {α : Type} (r : R α) (sl : Sl) (f : α → Hs → Q) : Q := match r with
  | .ok a h => f a h
  | .exc c fs h => .exc c fs sl h
  | .bad => .bad
def forL (s : Src) (f : D → Sl → Hs → Q) : List D → Sl → Hs → Q
  | [], sl, h => if chk s h then .ok .nx sl h else .bad
  | x :: xs, sl, h => if chk s h then (match f x sl h with
    | .ok .nx sl h => forL s f xs sl h
    | .ok .ct sl h => forL s f xs sl h
    | .ok .bk sl h => .ok .nx sl h
    | q => q) else .bad
def whlL (c : Sl → Hs → R Bool) (f : Sl → Hs → Q) : Nat → Sl → Hs → Q
  | 0, _, _ => .bad
  | n + 1, sl, h => (c sl h).q sl fun b h => if b then (match f sl h with
    | .ok .nx sl h => whlL c f n sl h
    | .ok .ct sl h => whlL c f n sl h
    | .ok .bk sl h => .ok .nx sl h
    | q => q) else .ok .nx sl h
def stoD (o i v : D) (h : Hs) : R Unit := match o, i with
  | .ref a, .int k => (match h[a]? with
    | some (.lst xs) => (match L2.ixN xs.length k with
      | some j => .ok () (h.set a (.lst (xs.set j v)))
      | none => .bad)
    | none => .bad)
  | _, _ => .bad
def wFuel : Nat := 100000
mutual
/-- no exception in it -/
def noX : D → Bool
  | .exn _ _ => false
  | .tup xs => noXs xs
  | .lst xs => noXs xs
  | _ => true
def noXs : List D → Bool
  | [] => true
  | x :: xs => noX x && noXs xs
end
/-- the slots behind a suite: as they were, or free of exceptions -/
def okSl : Sl → Sl → Bool
  | [], [] => true
  | none :: as, _ :: bs => okSl as bs
  | some a :: as, b :: bs => (decide (b = some a) || noX a) && okSl as bs
  | _, _ => false
def okF : F → Bool
  | .rt d => noX d
  | _ => true
mutual
def evS : S → Sl → Hs → Q
  | .asg t e, sl, h => (evE G C e sl h).q sl fun v h => (R.of (asgT h t v sl) h).q sl fun sl h => .ok .nx sl h
  | .sto o i e, sl, h => (evE G C e sl h).q sl fun v h => (evE G C o sl h).q sl fun x h => (evE G C i sl h).q sl fun k h => (stoD x k v h).q sl fun _ h => .ok .nx sl h
  | .aug i op e, sl, h => (evE G C (.var i) sl h).q sl fun x h => (evE G C e sl h).q sl fun y h => (match x, y with
    | .int _, .int _ => (binD op x y h).q sl fun z h => .ok .nx (sl.set i (some z)) h
    | _, _ => .bad)
  | .ex e, sl, h => (evE G C e sl h).q sl fun _ h => .ok .nx sl h
  | .ret none, sl, h => .ok (.rt .non) sl h
  | .ret (some e), sl, h => (evE G C e sl h).q sl fun v h => .ok (.rt v) sl h
  | .ite c a b, sl, h => (evE G C c sl h).q sl fun x h => (R.of (truD h x) h).q sl fun t h => if t then evSs a sl h else evSs b sl h
  | .for_ t it body, sl, h => (evI G C it sl h).q sl fun xs h => forL xs.2 (fun x sl h => (R.of (asgT h t x sl) h).q sl fun sl h => evSs body sl h) xs.1 sl h
  | .whl c body, sl, h => whlL (fun sl h => (evE G C c sl h).bind fun x h => R.of (truD h x) h) (fun sl h => evSs body sl h) wFuel sl h
  | .rais c es, sl, h => (evEs G C es sl h).q sl fun vs h => if G.flc[c]? = some vs.length then .exc c vs sl h else .bad
  | .try_ body hs, sl, h => (match evSs body sl h with
    | .exc c fs sl h => if c < G.exb.length then evH hs c fs sl h else .bad
    | q => q)
  | .pass, sl, h => .ok .nx sl h
  | .brk, sl, h => .ok .bk sl h
  | .cnt, sl, h => .ok .ct sl h
termination_by structural s => s
def evSs : List S → Sl → Hs → Q
  | [], sl, h => .ok .nx sl h
  | s :: ss, sl, h => (evS s sl h).bind fun sl h => evSs ss sl h
termination_by structural s => s
def evH : List Hd → Nat → List D → Sl → Hs → Q
  | [], c, fs, sl, h => .exc c fs sl h
  | x :: xs, c, fs, sl, h => match evH1 x c fs sl h with
    | some q => q
    | none => evH xs c fs sl h
termination_by structural s => s
def evH1 : Hd → Nat → List D → Sl → Hs → Option Q
  | .mk cs i suite, c, fs, sl, h => if cs.contains c then some (match i with
      | none => evSs suite sl h
      | some i => (match evSs suite (sl.set i (some (.exn c fs))) h with
        | .ok f sl2 h2 => if h2 = h ∧ okSl (sl2.set i none) sl = true ∧ okF f = true then .ok f (sl2.set i none) h else .bad
        | _ => .bad)) else none
termination_by structural s => s
end
end
/-- a def called: n deep -/
def callN (G : Gl) (F : List Fn) : Nat → Nat → List D → Hs → R D
  | 0, _, _, _ => .bad
  | n + 1, f, vs, h => match F[f]? with
    | some fn => if vs.length = fn.np then (match evSs G (callN G F n) fn.body (vs.map some ++ List.replicate (fn.ns - fn.np) none) h with
      | .ok (.rt v) _ h => .ok v h
      | .ok .nx _ h => .ok .non h
      | .exc c fs _ h => .exc c fs h
      | _ => .bad) else .bad
    | none => .bad
/-! the unfoldings are made here, once -/
example : True := (fun _ => trivial) (@evE.eq_def)
example : True := (fun _ => trivial) (@evEs.eq_def)
example : True := (fun _ => trivial) (@evO.eq_def)
example : True := (fun _ => trivial) (@evC.eq_def)
example : True := (fun _ => trivial) (@evI.eq_def)
example : True := (fun _ => trivial) (@evS.eq_def)
example : True := (fun _ => trivial) (@evSs.eq_def)
example : True := (fun _ => trivial) (@evH.eq_def)
example : True := (fun _ => trivial) (@evH1.eq_def)
example : True := (fun _ => trivial) (@callN.eq_def)
end L2.MP
/-! MpT: from the program's text to MpA's. -/
namespace L2.MP
open PySem
structure Cf where
  fns : List Str
  exs : List Str
  gls : List Str
  nds : List (Nat × Nat)
  roots : List (Nat × Nat)
  raws : List Str
  ars : List (Option Nat)
  calm : Bool
def ixOf : List Str → Str → Option Nat
  | [], _ => none
  | y :: r, x => if y = x then some 0 else (ixOf r x).map (· + 1)
def hasP : List (Nat × Nat) → Pos → Bool
  | [], _ => false
  | q :: r, p => (q.1 == p.line && q.2 == p.col) || hasP r p
def memS : List Str → Str → Bool
  | [], _ => false
  | y :: r, x => decide (y = x) || memS r x
def loc? (N : List Str) (sc : Scope) (x : Str) : Option Nat := match sc.names.lookup x with
  | some .local => ixOf N x
  | some .cell => ixOf N x
  | some .free => ixOf N x
  | _ => none
def glo? (sc : Scope) (x : Str) : Bool := match sc.names.lookup x with
  | some .globalImplicit => true
  | _ => false
def ownP (N : List Str) (sc : Scope) : List (Str × Nat) := sc.names.filterMap fun y => match y.2 with
  | .local => (ixOf N y.1).map fun i => (y.1, i)
  | .cell => (ixOf N y.1).map fun i => (y.1, i)
  | _ => none
def isSync (g : Comprehension) : Bool := g.is_async == 0
def bi? (x : Str) : Option BI :=
  if x = "len" then some .len
  else if x = "tuple" then some .tuple else if x = "list" then some .list else if x = "all" then some .all else if x = "any" then some .any
  else if x = "sum" then some .sum else if x = "max" then some .max else if x = "min" then some .min else if x = "int" then some .int else if x = "str" then some .str else if x = "repr" then some .repr else none
def mt? (nd : Bool) (x : Str) : Option MT :=
  if x = "split" then some (if nd then .splitN else .split) else if x = "join" then some .join else if x = "partition" then some .partition
  else if x = "append" then some .append else none
def ty? (cf : Cf) (sc : Scope) (x : Str) : Option Ty := if glo? sc x then (match ixOf cf.exs x with
  | some c => some (.own c)
  | none => if x = "int" then some .int else if x = "bool" then some .bool else if x = "str" then some .str else if x = "tuple" then some .tuple
    else if x = "list" then some .list else if x = "dict" then some .dict else if x = "ValueError" then some (.err "ValueError") else if x = "KeyError" then some (.err "KeyError")
    else if x = "OverflowError" then some (.err "OverflowError") else none) else none
def tys? (cf : Cf) (sc : Scope) : List Expr → Option (List Ty)
  | [] => some []
  | .Name x _ :: r => (ty? cf sc x).bind fun t => (tys? cf sc r).bind fun ts => some (t :: ts)
  | _ => none
def noFns (cf : Cf) : List Expr → Bool
  | [] => true
  | .Name x _ :: r => (ixOf cf.fns x).isNone && noFns cf r
  | _ :: r => noFns cf r
def clss? (cf : Cf) (sc : Scope) : List Expr → Option (List Nat)
  | [] => some []
  | .Name x _ :: r => if glo? sc x then (ixOf cf.exs x).bind fun c => (clss? cf sc r).map (c :: ·) else none
  | _ => none
def biCalm : BI → Bool
  | .len => true
  | .repr => true
  | .str => true
  | .int => true
  | .tuple => true
  | .list => true
  | _ => false
def cst? : Const → Option D
  | .none => some .non
  | .bool b => some (.bl b)
  | .int i => some (.int i)
  | .str s => if okB s.cps.toList then some (.str s.cps.toList) else none
  | _ => none
mutual
def trT (nd : Bool) : Nat → List Str → Scope → Expr → Option T
  | 0, _, _, _ => none
  | n + 1, N, sc, e => match e with
    | .Name x _ => (match sc.names.lookup x with
      | some .local => (ixOf N x).map .nm
      | some .cell => (ixOf N x).map .nm
      | _ => none)
    | .Tuple es _ _ => (trTs nd n N sc es).map .tp
    | .Starred (.Name x _) _ => (match sc.names.lookup x with
      | some .local => (ixOf N x).map fun i => .st i nd
      | _ => none)
    | _ => none
def trTs (nd : Bool) : Nat → List Str → Scope → List Expr → Option (List T)
  | 0, _, _, _ => none
  | _ + 1, _, _, [] => some []
  | n + 1, N, sc, e :: es => (trT nd n N sc e).bind fun t => (trTs nd n N sc es).bind fun ts => some (t :: ts)
end
mutual
def tIx : T → List Nat
  | .nm i => [i]
  | .tp ts => tIxs ts
  | .st i _ => [i]
def tIxs : List T → List Nat
  | [] => []
  | t :: ts => tIx t ++ tIxs ts
end
/-- what is gone through, and the target: some go only with a tuple target -/
def tgOk : I → Expr → Bool
  | .enum _ _, .Tuple _ _ _ => true
  | .zip _ _, .Tuple _ _ _ => true
  | .enum _ _, _ => false
  | .zip _ _, _ => false
  | _, _ => true
mutual
def trE (cf : Cf) : Nat → List Str → Scope → Expr → Option E
  | 0, _, _, _ => none
  | n + 1, N, sc, e => match e with
    | .Constant c _ _ => (cst? c).map .cst
    | .Name x _ => (match loc? N sc x with
      | some i => some (.var i)
      | none => if glo? sc x then (ixOf cf.gls x).map .glb else none)
    | .BinOp a op b _ => (trE cf n N sc a).bind fun a => (trE cf n N sc b).bind fun b => some (.bin op a b)
    | .UnaryOp .USub a _ => (trE cf n N sc a).map .neg
    | .UnaryOp .Not a _ => (trE cf n N sc a).map .not
    | .BoolOp op es _ => trB cf n N sc op es
    | .Compare a [op] [b] _ => (trE cf n N sc a).bind fun a => (trE cf n N sc b).bind fun b => some (.cmp op a b)
    | .Compare a [op, op2] [b, c] _ => (trE cf n N sc a).bind fun a => (trE cf n N sc b).bind fun b => (trE cf n N sc c).bind fun c => some (.chn op op2 a b c)
    | .IfExp c a b _ => (trE cf n N sc c).bind fun c => (trE cf n N sc a).bind fun a => (trE cf n N sc b).bind fun b => some (.ifx c a b)
    | .Tuple es _ _ => if es.length ≤ 1000 then (trEs cf n N sc es).map .tup else none
    | .Dict [] [] _ => some .emp
    | .List es p => if es.length ≤ 1000 then (trEs cf n N sc es).map fun es => .lst es (hasP cf.nds p) else none
    | .Subscript a (.Slice lo hi none _) _ => (trE cf n N sc a).bind fun a => (trO cf n N sc lo).bind fun lo => (trO cf n N sc hi).bind fun hi => some (.sl a lo hi)
    | .Subscript a i _ => (trE cf n N sc a).bind fun a => (trE cf n N sc i).bind fun i => some (.ix a i)
    | .ListComp elt [g] sc2 p => let s2 := L2.relS sc2 sc
      (trI cf n N sc g.iter).bind fun it => (trT false n N sc2 g.target).bind fun t => (match g.ifs with
        | [] => some none
        | [c] => (trE cf n N s2 c).map some
        | _ => none).bind fun c => (trE cf n N s2 elt).bind fun elt => if cf.calm && tgOk it g.target && isSync g && (tIx t).all (fun i => ((ownP N sc2).map Prod.snd).contains i) && L2.blkC N sc sc2 (ownP N sc2) then some (.lc ((ownP N sc2).map Prod.snd) t it c elt (hasP cf.nds p)) else none
    | .Call (.Name x _) es kws p => if glo? sc x then (match ixOf cf.fns x with
        | some f => if kws.isEmpty && cf.calm && !es.isEmpty then (trEs cf n N sc es).map fun es => .call f es (if hasP cf.roots p then .root else if memS cf.raws x then .raw else .pure) else none
        | none => if x = "isinstance" ∧ (ixOf cf.exs x).isNone = true ∧ kws.isEmpty = true then (match es with
            | [a, .Name c _] => if (ixOf cf.fns c).isNone then (trE cf n N sc a).bind fun a => (ty? cf sc c).map fun t => .isi a [t] else none
            | [a, .Tuple cs _ _] => if noFns cf cs && decide (cs.length ≤ 1000) && !cs.isEmpty then (trE cf n N sc a).bind fun a => (tys? cf sc cs).map fun ts => .isi a ts else none
            | _ => none)
          else if kws.isEmpty && !es.isEmpty && (ixOf cf.exs x).isNone then (bi? x).bind fun b => if cf.calm || biCalm b then (trEs cf n N sc es).map fun es => .bi b es (hasP cf.nds p) else none else none) else none
    | .Attribute (.Name x q) f _ => (trE cf n N sc (.Name x q)).map fun a => .fld a f.cps.toList
    | .Call (.Attribute o m ap) es [] cp => if ap.endLine == cp.line && decide (es.length < 20) && !es.isEmpty then (mt? (hasP cf.nds cp) m).bind fun m => (trE cf n N sc o).bind fun o => (trEs cf n N sc es).map fun es => .mt m o es else none
    | _ => none
def trB (cf : Cf) : Nat → List Str → Scope → BoolOp → List Expr → Option E
  | 0, _, _, _, _ => none
  | n + 1, N, sc, op, es => match es with
    | [] => none
    | [e] => trE cf n N sc e
    | e :: es => (trE cf n N sc e).bind fun a => (trB cf n N sc op es).bind fun b => some (match op with
      | .And => .and a b
      | .Or => .or a b)
def trEs (cf : Cf) : Nat → List Str → Scope → List Expr → Option (List E)
  | 0, _, _, _ => none
  | _ + 1, _, _, [] => some []
  | n + 1, N, sc, e :: es => (trE cf n N sc e).bind fun a => (trEs cf n N sc es).bind fun r => some (a :: r)
def trF (cf : Cf) : Nat → List Str → Scope → List Expr → Option (List E)
  | 0, _, _, _ => none
  | _ + 1, _, _, [] => some []
  | n + 1, N, sc, e :: es => (match e with
    | .FormattedValue a (-1) none _ => trE cf n N sc a
    | .Constant (.str s) _ _ => if okB s.cps.toList then some (.cst (.str s.cps.toList)) else none
    | _ => none).bind fun a => (trF cf n N sc es).bind fun r => some (a :: r)
def trO (cf : Cf) : Nat → List Str → Scope → Option Expr → Option (Option E)
  | 0, _, _, _ => none
  | _ + 1, _, _, none => some none
  | n + 1, N, sc, some e => (trE cf n N sc e).map some
def trI (cf : Cf) : Nat → List Str → Scope → Expr → Option I
  | 0, _, _, _ => none
  | n + 1, N, sc, e => match e with
    | .Call (.Name x _) es kws _ => if glo? sc x && (ixOf cf.fns x).isNone && (ixOf cf.exs x).isNone && (decide (x = "range") || decide (x = "enumerate") || decide (x = "zip")) then (match es, kws with
        | [a], [] => if x = "range" then (trE cf n N sc a).map fun a => .range (.cst (.int 0)) a else if x = "enumerate" then (trE cf n N sc a).map fun a => .enum a 0 else none
        | [a, b], [] => if x = "range" then (trE cf n N sc a).bind fun a => (trE cf n N sc b).map fun b => .range a b else none
        | _, _ => none) else (trE cf n N sc e).map .ex
    | _ => (trE cf n N sc e).map .ex
end
def bothTup : Expr → Expr → Bool
  | .Tuple _ _ _, .Tuple _ _ _ => true
  | _, _ => false
def isStar : Expr → Bool
  | .Starred _ _ => true
  | _ => false
def isTup : Expr → Bool
  | .Tuple _ _ _ => true
  | _ => false
def isLc : Expr → Bool
  | .ListComp _ _ _ _ => true
  | _ => false
mutual
def trS (cf : Cf) : Nat → List Str → Scope → Stmt → Option S
  | 0, _, _, _ => none
  | n + 1, N, sc, s => match s with
    | .Assign [.Subscript o i _] e _ => (trE cf n N sc e).bind fun e => (trE cf n N sc o).bind fun o => (trE cf n N sc i).bind fun i => some (.sto o i e)
    | .Assign [t] e p => if bothTup t e || isStar t || (isTup t && !cf.calm) then none else (trE cf n N sc e).bind fun e => (trT (hasP cf.nds p) n N sc t).bind fun t => some (.asg t e)
    | .Expr (.Constant (.str _) _ _) _ => some .pass
    | .Expr e _ => if isLc e then none else (trE cf n N sc e).map .ex
    | .Return none _ => some (.ret none)
    | .Return (some e) _ => (trE cf n N sc e).map fun e => .ret (some e)
    | .If c a b _ => (trE cf n N sc c).bind fun c => (trSs cf n N sc a).bind fun a => (trSs cf n N sc b).bind fun b => some (.ite c a b)
    | .For tg it body [] _ => (trI cf n N sc it).bind fun it => (trT false n N sc tg).bind fun t => (trSs cf n N sc body).bind fun b => if cf.calm && tgOk it tg then some (.for_ t it b) else none
    | .Raise (some (.Call (.Name x _) es [] _)) none _ => if glo? sc x && cf.calm then (ixOf cf.exs x).bind fun c => if cf.ars[c]? = some (some es.length) then (trEs cf n N sc es).map fun es => .rais c es else none else none
    | .Try body [.ExceptHandler (some (.Name x _)) (some y) (s0 :: suite) _] [] [] _ => if glo? sc x && cf.calm && (ixOf cf.fns x).isNone then (trSs cf n N sc body).bind fun b => (ixOf cf.exs x).bind fun c => (match sc.names.lookup y with
        | some .local => ixOf N y
        | _ => none).bind fun i => (trSs { cf with calm := false } n N sc (s0 :: suite)).bind fun su => some (.try_ b [.mk [c] (some i) su]) else none
    | .Pass _ => some .pass
    | .Break _ => some .brk
    | .Continue _ => some .cnt
    | _ => none
def trSs (cf : Cf) : Nat → List Str → Scope → List Stmt → Option (List S)
  | 0, _, _, _ => none
  | _ + 1, _, _, [] => some []
  | n + 1, N, sc, s :: ss => (trS cf n N sc s).bind fun a => (trSs cf n N sc ss).bind fun r => some (a :: r)
end
/-- one def: its text's names by slot, the number of its parameters -/
def trFn (cf : Cf) (N : List Str) (np : Nat) (st : Stmt) : Option Fn := match st with
  | .FunctionDef _ _ body _ _ _ sc _ _ _ => (trSs cf 60 N sc body).map fun b => ⟨np, N.length, b⟩
  | _ => none
end L2.MP
/-! MpB: how the interpreter's states lie in HandS's abstract heaps. -/
namespace L2.MP
open PySem PySem.Spec PyProof.Rows

/-- what does not change through a proof: the written part, the exceptions' fields, the exception that a suite holds -/
structure RB where
  K : PySem.W.Frag
  fl : Nat → List Str
  xa : Option (Addr × Nat × Option Addr)
/-- a state: the abstract heap, where the nodes stand -/
structure RC where
  B : RB
  H : Hp
  loc : Nat → Addr
  ns : Hs
  pv : Addr → Prop
/-- the addresses of what may change -/
def RC.W (r : RC) (a : Addr) : Prop := (∃ i xs, r.ns[i]? = some (.lst xs) ∧ r.loc i = a) ∨ r.pv a
/-- a list of the written part -/
def KLst (K : PySem.W.Frag) (a : Addr) (vs : List V) : Prop := ∃ (o : Obj) (its : Array Value) (n : Nat), K.lookup a = some o ∧ o.cls = .type "list" ∧ o.dict = none ∧ o.data = .seq its n ∧ its.size ≤ sizeLine ∧ Vals vs its.toList
def SqW (r : RC) (a : Addr) (vs : List V) : Prop := (Rd r.H a (.lst vs) ∧ ¬ r.W a) ∨ KLst r.B.K a vs
mutual
def RV (r : RC) : D → V → Prop
  | .non, v => v = .non
  | .bl b, v => v = .bl b
  | .int i, v => v = .int i
  | .str s, v => v = .str ⟨s.toArray⟩ ∧ okS s
  | .ref i, v => i < r.ns.length ∧ v = .ref (r.loc i)
  | .tup xs, v => ∃ a vs, v = .ref a ∧ SqT r.B.K r.H a vs ∧ RVs r xs vs
  | .lst xs, v => ∃ a vs, v = .ref a ∧ r.H a = some (.lst vs) ∧ ¬ r.W a ∧ RVs r xs vs
  | .exn c fs, v => ∃ a d, v = .ref a ∧ r.B.xa = some (a, c, d) ∧ ((d = none ∧ fs = []) ∨ ∃ dx vs, d = some dx ∧ fs ≠ [] ∧ r.H dx = some (.xd ((r.B.fl c).zip vs).reverse) ∧ vs.length = (r.B.fl c).length ∧ RVs r fs vs)
  | .dic ks vs, v => ∃ a, v = .ref a ∧ r.H a = some (.dK []) ∧ ks = [] ∧ vs = []
  | .scr ns, v => ∃ a, v = .ref a ∧ SqW r a (ns.map V.int)
def RVs (r : RC) : List D → List V → Prop
  | [], vs => vs = []
  | x :: xs, vs => ∃ v ws, vs = v :: ws ∧ RV r x v ∧ RVs r xs ws
end
def RN (r : RC) (i : Nat) : Nd → Prop
  | .lst xs => ∃ vs, r.H (r.loc i) = some (.lst vs) ∧ RVs r xs vs
structure Rep (r : RC) : Prop where
  inj : ∀ (i j : Nat), i < r.ns.length → j < r.ns.length → r.loc i = r.loc j → i = j
  nod : ∀ (i : Nat) (nd : Nd), r.ns[i]? = some nd → RN r i nd
  sep : ∀ (i : Nat) (nd : Nd), r.ns[i]? = some nd → ¬ r.pv (r.loc i)
  pvs : ∀ a, r.pv a → ∃ vs, r.H a = some (.lst vs)
def RS (r : RC) (sl : Sl) (σ : St) : Prop := sl.length = σ.length ∧ ∀ (i : Nat) (d : D), sl[i]? = some (some d) → ∃ v, σ[i]? = some (some v) ∧ RV r d v

theorem RVs.nil {r : RC} : RVs r [] [] := by simp [RVs]
theorem RVs.cons {r : RC} {x : D} {xs : List D} {v : V} {vs : List V} (h : RV r x v) (hs : RVs r xs vs) : RVs r (x :: xs) (v :: vs) := by
  simp only [RVs]
  exact ⟨v, vs, rfl, h, hs⟩
theorem RVs.inv {r : RC} {x : D} {xs : List D} {vs : List V} (h : RVs r (x :: xs) vs) : ∃ v ws, vs = v :: ws ∧ RV r x v ∧ RVs r xs ws := by
  simpa only [RVs] using h
theorem RVs.invN {r : RC} {vs : List V} (h : RVs r [] vs) : vs = [] := by simpa only [RVs] using h
theorem RVs.length {r : RC} : ∀ {xs : List D} {vs : List V}, RVs r xs vs → xs.length = vs.length
  | [], _, h => by rw [RVs.invN h]; rfl
  | x :: xs, _, h => by
    obtain ⟨v, ws, rfl, _, h2⟩ := RVs.inv h
    simp [RVs.length h2]
theorem RVs.get {r : RC} : ∀ {xs : List D} {vs : List V} {i : Nat} {x : D}, RVs r xs vs → xs[i]? = some x → ∃ v, vs[i]? = some v ∧ RV r x v
  | [], _, _, _, h, e => by simp at e
  | x :: xs, _, 0, y, h, e => by
    obtain ⟨v, ws, rfl, h1, h2⟩ := RVs.inv h
    simp at e; subst e
    exact ⟨v, rfl, h1⟩
  | x :: xs, _, i + 1, y, h, e => by
    obtain ⟨v, ws, rfl, h1, h2⟩ := RVs.inv h
    obtain ⟨u, e2, h3⟩ := RVs.get (i := i) h2 (by simpa using e)
    exact ⟨u, by simpa using e2, h3⟩
theorem RVs.getV {r : RC} : ∀ {xs : List D} {vs : List V} {i : Nat} {v : V}, RVs r xs vs → vs[i]? = some v → ∃ x, xs[i]? = some x ∧ RV r x v
  | [], _, _, _, h, e => by rw [RVs.invN h] at e; simp at e
  | x :: xs, _, 0, y, h, e => by
    obtain ⟨v, ws, rfl, h1, h2⟩ := RVs.inv h
    simp at e; subst e
    exact ⟨x, rfl, h1⟩
  | x :: xs, _, i + 1, y, h, e => by
    obtain ⟨v, ws, rfl, h1, h2⟩ := RVs.inv h
    obtain ⟨u, e2, h3⟩ := RVs.getV (i := i) h2 (by simpa using e)
    exact ⟨u, by simpa using e2, h3⟩
theorem RVs.append {r : RC} : ∀ {xs ys : List D} {vs ws : List V}, RVs r xs vs → RVs r ys ws → RVs r (xs ++ ys) (vs ++ ws)
  | [], _, _, _, h, k => by rw [RVs.invN h]; exact k
  | x :: xs, _, _, _, h, k => by
    obtain ⟨v, ws, rfl, h1, h2⟩ := RVs.inv h
    exact RVs.cons h1 (RVs.append h2 k)
theorem RVs.take {r : RC} : ∀ {xs : List D} {vs : List V} (n : Nat), RVs r xs vs → RVs r (xs.take n) (vs.take n)
  | _, _, 0, _ => by simp [RVs]
  | [], _, n + 1, h => by rw [RVs.invN h]; simp [RVs]
  | x :: xs, _, n + 1, h => by
    obtain ⟨v, ws, rfl, h1, h2⟩ := RVs.inv h
    exact RVs.cons h1 (RVs.take n h2)
theorem RVs.drop {r : RC} : ∀ {xs : List D} {vs : List V} (n : Nat), RVs r xs vs → RVs r (xs.drop n) (vs.drop n)
  | _, _, 0, h => h
  | [], _, n + 1, h => by rw [RVs.invN h]; simp [RVs]
  | x :: xs, _, n + 1, h => by
    obtain ⟨v, ws, rfl, h1, h2⟩ := RVs.inv h
    exact RVs.drop n h2
theorem RVs.set {r : RC} : ∀ {xs : List D} {vs : List V} {x : D} {v : V} (i : Nat), RVs r xs vs → RV r x v → RVs r (xs.set i x) (vs.set i v)
  | [], _, _, _, _, h, _ => by rw [RVs.invN h]; simp [RVs]
  | y :: xs, _, _, _, 0, h, k => by
    obtain ⟨v, ws, rfl, h1, h2⟩ := RVs.inv h
    exact RVs.cons k h2
  | y :: xs, _, _, _, i + 1, h, k => by
    obtain ⟨v, ws, rfl, h1, h2⟩ := RVs.inv h
    exact RVs.cons h1 (RVs.set i h2 k)
theorem RVs.single {r : RC} {x : D} {vs : List V} (h : RVs r [x] vs) : ∃ v, vs = [v] ∧ RV r x v := by
  obtain ⟨v, ws, rfl, h1, h2⟩ := RVs.inv h
  rw [RVs.invN h2]
  exact ⟨v, rfl, h1⟩
theorem RVs.two {r : RC} {x y : D} {vs : List V} (h : RVs r [x, y] vs) : ∃ v w, vs = [v, w] ∧ RV r x v ∧ RV r y w := by
  obtain ⟨v, ws, rfl, h1, h2⟩ := RVs.inv h
  obtain ⟨w, rfl, h3⟩ := RVs.single h2
  exact ⟨v, w, rfl, h1, h3⟩

/-! ### growing -/
structure Ext0 (r r' : RC) : Prop where
  B : r'.B = r.B
  keep : ∀ a o, r.H a = some o → ¬ r.W a → r'.H a = some o
  own : ∀ a, r'.W a → r.W a ∨ r.H a = none
  loc : ∀ i, i < r.ns.length → r'.loc i = r.loc i
  len : r.ns.length ≤ r'.ns.length
structure Ext (r r' : RC) : Prop extends Ext0 r r' where
  pv : ∀ a, r.pv a → r'.pv a
  prv : ∀ a, r.pv a → r'.H a = r.H a
theorem Ext.refl (r : RC) : Ext r r := ⟨⟨rfl, fun _ _ h _ => h, fun _ h => .inl h, fun _ _ => rfl, Nat.le_refl _⟩, fun _ h => h, fun _ _ => rfl⟩
theorem Ext.trans {r r1 r2 : RC} (a : Ext r r1) (b : Ext r1 r2) : Ext r r2 where
  B := b.B.trans a.B
  keep := fun c o h n => b.keep c o (a.keep c o h n) fun w => by
    rcases a.own c w with q | q
    · exact n q
    · rw [h] at q; cases q
  own := fun c w => by
    rcases b.own c w with q | q
    · exact a.own c q
    · cases e : r.H c with
      | none => exact .inr rfl
      | some o =>
        by_cases n : r.W c
        · exact .inl n
        · rw [a.keep c o e n] at q; cases q
  loc := fun i h => (b.loc i (Nat.lt_of_lt_of_le h a.len)).trans (a.loc i h)
  len := Nat.le_trans a.len b.len
  pv := fun c h => b.pv c (a.pv c h)
  prv := fun c h => (b.prv c (a.pv c h)).trans (a.prv c h)
theorem Rd.ext0 {r r' : RC} (e : Ext0 r r') {a : Addr} {u : HO} (h : Rd r.H a u) (n : ¬ r.W a) : Rd r'.H a u ∧ ¬ r'.W a := by
  have hn : r.H a ≠ none := by
    rcases h with h | ⟨o, h⟩ <;> rw [h] <;> simp
  refine ⟨?_, fun w => ?_⟩
  · rcases h with h | ⟨o, h⟩
    · exact .inl (e.keep a _ h n)
    · exact .inr ⟨o, e.keep a _ h n⟩
  · rcases e.own a w with q | q
    · exact n q
    · exact hn q
theorem SqW.ext0 {r r' : RC} (e : Ext0 r r') {a : Addr} {vs : List V} (h : SqW r a vs) : SqW r' a vs := by
  rcases h with ⟨h, n⟩ | h
  · exact .inl (Rd.ext0 e h n)
  · exact .inr (by rw [e.B]; exact h)
theorem SqW.sq {r : RC} {a : Addr} {vs : List V} (h : SqW r a vs) : SqL r.B.K r.H a vs := by
  rcases h with ⟨h, _⟩ | h
  · exact .inl h
  · exact .inr h
/-- what is no list does not stand among the nodes -/
theorem Rep.notW {r : RC} (R : Rep r) {a : Addr} {o : HO} (h : r.H a = some o) (n : ∀ vs, o ≠ .lst vs) : ¬ r.W a := by
  rintro (⟨i, xs, e, rfl⟩ | e)
  · obtain ⟨vs, q, _⟩ := R.nod i _ e
    rw [h] at q
    exact n vs (Option.some.inj q)
  · obtain ⟨vs, q⟩ := R.pvs a e
    rw [h] at q
    exact n vs (Option.some.inj q)
theorem SqT.ext0 {r r' : RC} (R : Rep r) (e : Ext0 r r') {a : Addr} {vs : List V} (h : SqT r.B.K r.H a vs) : SqT r'.B.K r'.H a vs := by
  rcases h with h | h
  · refine .inl ?_
    rcases h with h | ⟨o, h⟩
    · exact .inl (e.keep a _ h (R.notW h fun _ z => by cases z))
    · exact .inr ⟨o, e.keep a _ h (R.notW h fun _ z => by cases z)⟩
  · exact .inr (by rw [e.B]; exact h)
mutual
theorem RV.ext0 {r r' : RC} (R : Rep r) (e : Ext0 r r') : ∀ {d : D} {v : V}, RV r d v → RV r' d v
  | .non, _, h => by simpa only [RV] using h
  | .bl _, _, h => by simpa only [RV] using h
  | .int _, _, h => by simpa only [RV] using h
  | .str _, _, h => by simpa only [RV] using h
  | .ref i, _, h => by
    simp only [RV] at h ⊢
    exact ⟨Nat.lt_of_lt_of_le h.1 e.len, by rw [h.2, e.loc i h.1]⟩
  | .tup xs, _, h => by
    simp only [RV] at h ⊢
    obtain ⟨a, vs, rfl, h1, h2⟩ := h
    exact ⟨a, vs, rfl, SqT.ext0 R e h1, RVs.ext0 R e h2⟩
  | .lst xs, _, h => by
    simp only [RV] at h ⊢
    obtain ⟨a, vs, rfl, h1, h2, h3⟩ := h
    obtain ⟨q, n⟩ := Rd.ext0 e (.inl h1) h2
    exact ⟨a, vs, rfl, e.keep a _ h1 h2, n, RVs.ext0 R e h3⟩
  | .exn c fs, _, h => by
    simp only [RV] at h ⊢
    obtain ⟨a, d, rfl, h1, h2⟩ := h
    refine ⟨a, d, rfl, by rw [e.B]; exact h1, ?_⟩
    rcases h2 with h2 | ⟨dx, vs, rfl, hne, h3, h4, h5⟩
    · exact .inl h2
    · exact .inr ⟨dx, vs, rfl, hne, by rw [e.B]; exact e.keep _ _ h3 (R.notW h3 fun _ z => by cases z), by rw [e.B]; exact h4, RVs.ext0 R e h5⟩
  | .dic ks vs, _, h => by
    simp only [RV] at h ⊢
    obtain ⟨a, rfl, h1, h2⟩ := h
    exact ⟨a, rfl, e.keep _ _ h1 (R.notW h1 fun _ z => by cases z), h2⟩
  | .scr ns, _, h => by
    simp only [RV] at h ⊢
    obtain ⟨a, rfl, h1⟩ := h
    exact ⟨a, rfl, SqW.ext0 e h1⟩
theorem RVs.ext0 {r r' : RC} (R : Rep r) (e : Ext0 r r') : ∀ {xs : List D} {vs : List V}, RVs r xs vs → RVs r' xs vs
  | [], _, h => by rw [RVs.invN h]; exact RVs.nil
  | x :: xs, _, h => by
    obtain ⟨v, ws, rfl, h1, h2⟩ := RVs.inv h
    exact RVs.cons (RV.ext0 R e h1) (RVs.ext0 R e h2)
end
theorem RV.ext {r r' : RC} (R : Rep r) (e : Ext r r') {d : D} {v : V} (h : RV r d v) : RV r' d v := RV.ext0 R e.toExt0 h
theorem RVs.ext {r r' : RC} (R : Rep r) (e : Ext r r') {xs : List D} {vs : List V} (h : RVs r xs vs) : RVs r' xs vs := RVs.ext0 R e.toExt0 h
theorem RS.ext {r r' : RC} (R : Rep r) (e : Ext r r') {sl : Sl} {σ : St} (h : RS r sl σ) : RS r' sl σ :=
  ⟨h.1, fun i d q => let ⟨v, a, b⟩ := h.2 i d q; ⟨v, a, RV.ext R e b⟩⟩

/-! ### steps of a state -/
/-- a new thing that is no node -/
theorem Rep.alloc {r : RC} (R : Rep r) {p : Addr} {o : HO} (hp : r.H p = none) : Ext r { r with H := upd r.H p o } ∧ Rep { r with H := upd r.H p o } := by
  have e : Ext r { r with H := upd r.H p o } := ⟨⟨rfl, fun a u h _ => by
    show upd r.H p o a = some u
    rw [upd_ne (ne_of_none h hp)]; exact h, fun a h => .inl h, fun _ _ => rfl, Nat.le_refl _⟩, fun _ h => h, fun a h => by
    obtain ⟨vs, q⟩ := R.pvs a h
    exact upd_ne (ne_of_none q hp)⟩
  refine ⟨e, R.inj, fun i nd q => ?_, R.sep, fun a h => by
    obtain ⟨vs, q⟩ := R.pvs a h
    exact ⟨vs, (upd_ne (ne_of_none q hp)).trans q⟩⟩
  have h := R.nod i nd q
  cases nd with
  | lst xs =>
    obtain ⟨vs, h1, h2⟩ := h
    refine ⟨vs, ?_, RVs.ext R e h2⟩
    show upd r.H p o (r.loc i) = _
    rw [upd_ne (ne_of_none h1 hp)]; exact h1
theorem get_lt {α : Type} {l : List α} {i : Nat} {x : α} (h : l[i]? = some x) : i < l.length := (List.getElem?_eq_some_iff.mp h).1
theorem get_app {α : Type} {l : List α} {y : α} {i : Nat} {x : α} (h : (l ++ [y])[i]? = some x) : (i < l.length ∧ l[i]? = some x) ∨ (i = l.length ∧ x = y) := by
  by_cases hi : i < l.length
  · rw [List.getElem?_append_left hi] at h
    exact .inl ⟨hi, h⟩
  · have hl := get_lt h
    rw [List.length_append] at hl
    have e : i = l.length := by simp at hl; omega
    subst e
    rw [List.getElem?_append_right (Nat.le_refl _)] at h
    simp at h
    exact .inr ⟨rfl, h.symm⟩
def RC.grow (r : RC) (p : Addr) (vs : List V) (xs : List D) : RC := ⟨r.B, upd r.H p (.lst vs), fun i => if i = r.ns.length then p else r.loc i, r.ns ++ [.lst xs], r.pv⟩
/-- a new node -/
theorem Rep.node {r : RC} (R : Rep r) {p : Addr} {xs : List D} {vs : List V} (hp : r.H p = none) (h : RVs r xs vs) :
    Ext r (r.grow p vs xs) ∧ Rep (r.grow p vs xs) ∧ RV (r.grow p vs xs) (.ref r.ns.length) (.ref p) := by
  have nn : ∀ (i : Nat) nd, r.ns[i]? = some nd → r.loc i ≠ p := fun i nd q z => by
    have h1 := R.nod i nd q
    cases nd with
    | lst ys =>
      obtain ⟨ws, h2, _⟩ := h1
      rw [z, hp] at h2; cases h2
  have ll : ∀ i, i < r.ns.length → (r.grow p vs xs).loc i = r.loc i := fun i hi => if_neg (Nat.ne_of_lt hi)
  have lp : (r.grow p vs xs).loc r.ns.length = p := if_pos rfl
  have pne : ∀ a, r.pv a → a ≠ p := fun a h => by
    obtain ⟨vs, q⟩ := R.pvs a h
    exact ne_of_none q hp
  have e : Ext r (r.grow p vs xs) := ⟨⟨rfl, fun a u q _ => by
    show upd r.H p _ a = some u
    rw [upd_ne (ne_of_none q hp)]; exact q, fun a w => by
      rcases w with ⟨i, ys, q, rfl⟩ | w
      · rcases get_app q with ⟨hi, q⟩ | ⟨rfl, _⟩
        · rw [ll i hi]
          exact .inl (.inl ⟨i, ys, q, rfl⟩)
        · rw [lp]
          exact .inr hp
      · exact .inl (.inr w), ll, by show _ ≤ (r.ns ++ [Nd.lst xs]).length; rw [List.length_append]; exact Nat.le_add_right _ _⟩, fun _ h => h, fun a h => upd_ne (pne a h)⟩
  refine ⟨e, ⟨fun i j hi hj z => ?_, fun i nd q => ?_, fun i nd q z => ?_, fun a h => ?_⟩, ?_⟩
  · have hi' : i < (r.ns ++ [Nd.lst xs]).length := hi
    have hj' : j < (r.ns ++ [Nd.lst xs]).length := hj
    rw [List.length_append, List.length_singleton] at hi' hj'
    by_cases ei : i = r.ns.length
    · by_cases ej : j = r.ns.length
      · rw [ei, ej]
      · have hj2 : j < r.ns.length := by omega
        rw [ei, lp, ll j hj2] at z
        obtain ⟨nd, q⟩ : ∃ nd, r.ns[j]? = some nd := ⟨_, List.getElem?_eq_getElem hj2⟩
        exact absurd z.symm (nn j nd q)
    · have hi2 : i < r.ns.length := by omega
      by_cases ej : j = r.ns.length
      · rw [ej, lp, ll i hi2] at z
        obtain ⟨nd, q⟩ : ∃ nd, r.ns[i]? = some nd := ⟨_, List.getElem?_eq_getElem hi2⟩
        exact absurd z (nn i nd q)
      · have hj2 : j < r.ns.length := by omega
        rw [ll i hi2, ll j hj2] at z
        exact R.inj i j hi2 hj2 z
  · rcases get_app q with ⟨hi, q⟩ | ⟨rfl, rfl⟩
    · have h1 := R.nod i nd q
      cases nd with
      | lst ys =>
        obtain ⟨ws, h2, h3⟩ := h1
        refine ⟨ws, ?_, RVs.ext R e h3⟩
        rw [ll i hi]
        show upd r.H p _ (r.loc i) = _
        rw [upd_ne (ne_of_none h2 hp)]; exact h2
    · refine ⟨vs, ?_, RVs.ext R e h⟩
      rw [lp]
      exact upd_same
  · rcases get_app q with ⟨hi, q⟩ | ⟨rfl, rfl⟩
    · rw [ll i hi] at z
      exact R.sep i nd q z
    · rw [lp] at z
      exact pne p z rfl
  · obtain ⟨ws, q⟩ := R.pvs a h
    exact ⟨ws, (upd_ne (pne a h)).trans q⟩
  · simp only [RV]
    exact ⟨by show _ < (r.ns ++ [Nd.lst xs]).length; rw [List.length_append]; simp, by rw [lp]⟩
def RC.put (r : RC) (i : Nat) (vs : List V) (xs : List D) : RC := ⟨r.B, upd r.H (r.loc i) (.lst vs), r.loc, r.ns.set i (.lst xs), r.pv⟩
theorem getV_set {α : Type} {l : List α} {i j : Nat} {x y : α} (h : (l.set i y)[j]? = some x) : (j = i ∧ x = y ∧ i < l.length) ∨ (j ≠ i ∧ l[j]? = some x) := by
  by_cases e : j = i
  · subst e
    have hl := get_lt h
    rw [List.length_set] at hl
    rw [List.getElem?_set_self hl] at h
    exact .inl ⟨rfl, (Option.some.inj h).symm, hl⟩
  · rw [List.getElem?_set_ne (Ne.symm e)] at h
    exact .inr ⟨e, h⟩
/-- a node is written -/
theorem Rep.put {r : RC} (R : Rep r) {i : Nat} {ys : List D} {xs : List D} {vs : List V} (hi : r.ns[i]? = some (.lst ys)) (h : RVs r xs vs) : Ext r (r.put i vs xs) ∧ Rep (r.put i vs xs) := by
  obtain ⟨ws, h1, h2⟩ := R.nod i _ hi
  have e : Ext r (r.put i vs xs) := ⟨⟨rfl, fun a u q n => by
    show upd r.H (r.loc i) _ a = some u
    rw [upd_ne fun z => n (.inl ⟨i, ys, hi, z.symm⟩)]; exact q, fun a w => by
      rcases w with ⟨j, zs, q, rfl⟩ | w
      · rcases getV_set (show (r.ns.set i (.lst xs))[j]? = some (.lst zs) from q) with ⟨rfl, _, _⟩ | ⟨_, q⟩
        · exact .inl (.inl ⟨j, ys, hi, rfl⟩)
        · exact .inl (.inl ⟨j, zs, q, rfl⟩)
      · exact .inl (.inr w), fun _ _ => rfl, by show _ ≤ (r.ns.set i _).length; rw [List.length_set]; exact Nat.le_refl _⟩, fun _ h => h, fun a h => upd_ne fun z : a = r.loc i => R.sep i _ hi (by rw [← z]; exact h)⟩
  refine ⟨e, ⟨fun a b ha hb z => R.inj a b (by have q : a < (r.ns.set i (Nd.lst xs)).length := ha; rw [List.length_set] at q; exact q) (by have q : b < (r.ns.set i (Nd.lst xs)).length := hb; rw [List.length_set] at q; exact q) z, fun j nd q => ?_, fun j nd q z => ?_, fun a h => ?_⟩⟩
  rotate_left
  · rcases getV_set (show (r.ns.set i (.lst xs))[j]? = some nd from q) with ⟨rfl, _, _⟩ | ⟨_, q⟩
    · exact R.sep j _ hi z
    · exact R.sep j _ q z
  · obtain ⟨us, q⟩ := R.pvs a h
    exact ⟨us, (upd_ne fun z : a = r.loc i => R.sep i _ hi (by rw [← z]; exact h)).trans q⟩
  rcases getV_set (show (r.ns.set i (.lst xs))[j]? = some nd from q) with ⟨rfl, rfl, _⟩ | ⟨ne, q⟩
  · exact ⟨vs, upd_same, RVs.ext R e h⟩
  · have h3 := R.nod j nd q
    cases nd with
    | lst zs =>
      obtain ⟨us, h4, h5⟩ := h3
      refine ⟨us, ?_, RVs.ext R e h5⟩
      show upd r.H (r.loc i) _ (r.loc j) = _
      rw [upd_ne fun z => ne (R.inj j i (get_lt q) (get_lt hi) z)]
      exact h4
/-- a private list -/
def RC.priv (r : RC) (p : Addr) (vs : List V) : RC := ⟨r.B, upd r.H p (.lst vs), r.loc, r.ns, fun a => r.pv a ∨ a = p⟩
theorem Rep.priv {r : RC} (R : Rep r) {p : Addr} {vs : List V} (hp : r.H p = none) : Ext r (r.priv p vs) ∧ Rep (r.priv p vs) := by
  have pne : ∀ a, r.pv a → a ≠ p := fun a h => by
    obtain ⟨vs, q⟩ := R.pvs a h
    exact ne_of_none q hp
  have e : Ext r (r.priv p vs) := ⟨⟨rfl, fun a u h _ => by
    show upd r.H p _ a = some u
    rw [upd_ne (ne_of_none h hp)]; exact h, fun a w => by
      rcases w with w | w | rfl
      · exact .inl (.inl w)
      · exact .inl (.inr w)
      · exact .inr hp, fun _ _ => rfl, Nat.le_refl _⟩, fun _ h => .inl h, fun a h => upd_ne (pne a h)⟩
  refine ⟨e, R.inj, fun i nd q => ?_, fun i nd q z => ?_, fun a h => ?_⟩
  · have h := R.nod i nd q
    cases nd with
    | lst xs =>
      obtain ⟨vs, h1, h2⟩ := h
      refine ⟨vs, ?_, RVs.ext R e h2⟩
      show upd r.H p _ (r.loc i) = _
      rw [upd_ne (ne_of_none h1 hp)]; exact h1
  · rcases z with z | z
    · exact R.sep i nd q z
    · have h := R.nod i nd q
      cases nd with
      | lst xs =>
        obtain ⟨vs, h1, h2⟩ := h
        have z' : r.loc i = p := z
        rw [z', hp] at h1; cases h1
  · rcases h with h | rfl
    · obtain ⟨ws, q⟩ := R.pvs a h
      exact ⟨ws, (upd_ne (pne a h)).trans q⟩
    · exact ⟨vs, upd_same⟩
/-- a private list written -/
theorem Rep.tick {r : RC} (R : Rep r) {p : Addr} {vs : List V} (hp : r.pv p) : Ext0 r { r with H := upd r.H p (.lst vs) } ∧ Rep { r with H := upd r.H p (.lst vs) } := by
  have e : Ext0 r { r with H := upd r.H p (.lst vs) } := ⟨rfl, fun a u h n => by
    show upd r.H p _ a = some u
    rw [upd_ne fun z : a = p => n (.inr (z ▸ hp))]; exact h, fun a w => .inl w, fun _ _ => rfl, Nat.le_refl _⟩
  refine ⟨e, R.inj, fun i nd q => ?_, R.sep, fun a h => ?_⟩
  · have h := R.nod i nd q
    cases nd with
    | lst xs =>
      obtain ⟨us, h1, h2⟩ := h
      refine ⟨us, ?_, RVs.ext0 R e h2⟩
      show upd r.H p _ (r.loc i) = _
      rw [upd_ne fun z : r.loc i = p => R.sep i _ q (by rw [z]; exact hp)]; exact h1
  · by_cases z : a = p
    · subst z; exact ⟨vs, upd_same⟩
    · obtain ⟨us, h1⟩ := R.pvs a h
      exact ⟨us, (upd_ne z).trans h1⟩
/-- a private list shown -/
def RC.show (r : RC) (p : Addr) : RC := { r with pv := fun a => r.pv a ∧ a ≠ p }
theorem Rep.show {r : RC} (R : Rep r) (p : Addr) : Ext0 r (r.show p) ∧ Rep (r.show p) := by
  have e : Ext0 r (r.show p) := ⟨rfl, fun _ _ h _ => h, fun a w => by
    rcases w with w | w
    · exact .inl (.inl w)
    · exact .inl (.inr w.1), fun _ _ => rfl, Nat.le_refl _⟩
  refine ⟨e, R.inj, fun i nd q => ?_, fun i nd q z => R.sep i nd q z.1, fun a h => R.pvs a h.1⟩
  have h := R.nod i nd q
  cases nd with
  | lst xs =>
    obtain ⟨us, h1, h2⟩ := h
    exact ⟨us, h1, RVs.ext0 R e h2⟩
end L2.MP
/-! MpC: weakest readings; operations. -/
namespace L2.MP
open PySem PySem.Spec PyProof.Rows

/-! ### weakest readings -/
def TM (X : Cx) (e : Expr) : TE := fun σ H Q => ∀ (pins : List (Addr × Obj)) (s : Shared), Inv X pins σ H s → wpAny (model X.prog X.w) X.A (eval e X.env) (EP X pins σ Q) X.xe s
theorem pe_tm {X : Cx} {e : Expr} : PE X e (TM X e) := ⟨fun pins s _ _ _ I h => h pins s I⟩
theorem TM.of {X : Cx} {e : Expr} {t : TE} {σ : St} {H : Hp} {Q : VK} (h : PE X e t) (q : t σ H Q) : TM X e σ H Q := fun pins s I => h.run pins s σ H Q I q
theorem EP.mono {X : Cx} {pins : List (Addr × Obj)} {σ : St} {Q Q' : VK} (h : ∀ v H, Q v H → Q' v H) {u : Value} {s : Shared} (q : EP X pins σ Q u s) : EP X pins σ Q' u s :=
  let ⟨v, H', I, r, q⟩ := q; ⟨v, H', I, r, h _ _ q⟩
theorem TM.mono {X : Cx} {e : Expr} {σ : St} {H : Hp} {Q Q' : VK} (q : TM X e σ H Q) (h : ∀ v H, Q v H → Q' v H) : TM X e σ H Q' := fun pins s I => thn (q pins s I) fun _ _ z => EP.mono h z
def OM (X : Cx) (f : Value → Value → Sem Value) (σ : St) : R2 := fun x y H Q => ∀ (pins : List (Addr × Obj)) (s : Shared) (v u : Value), Inv X pins σ H s → RelV x v → RelV y u → wpAny (model X.prog X.w) X.A (f v u) (EP X pins σ Q) X.xe s
theorem OM.of {X : Cx} {f : Value → Value → Sem Value} {r : R2} (h : OpR X f r) {σ : St} {x y : V} {H : Hp} {Q : VK} (q : r x y H Q) : OM X f σ x y H Q := fun pins s v u I rx ry => h pins s σ H x y v u Q I rx ry q
/-- a builtin called -/
def CM (X : Cx) (f : Value) (σ : St) : List V → Hp → VK → Prop := fun xs H Q => ∀ (pins : List (Addr × Obj)) (s : Shared) (us : List Value), Inv X pins σ H s → Vals xs us → wpAny (model X.prog X.w) X.A (call f us) (EP X pins σ Q) X.xe s
theorem CM.of {X : Cx} {f : Value} {r : List V → Hp → VK → Prop} (h : CallR X f r) {σ : St} {xs : List V} {H : Hp} {Q : VK} (q : r xs H Q) : CM X f σ xs H Q := fun pins s us I rx => h pins s σ H xs us Q I rx q
theorem TM.bin {X : Cx} {a b : Expr} {op : Operator} {pos : Pos} {σ : St} {H : Hp} {Q : VK} (h : TM X a σ H fun x H1 => TM X b σ H1 fun y H2 => OM X (binaryOp op) σ x y H2 Q) : TM X (.BinOp a op b pos) σ H Q := fun pins s I =>
  wpAny_BinOp (binT pe_tm pe_tm I h fun v u s2 x y H2 I2 rx ry q => q pins s2 v u I2 rx ry)
theorem TM.cmp {X : Cx} {a b : Expr} {op : CmpOp} {pos : Pos} {σ : St} {H : Hp} {Q : VK} (hm : behindInMarks op b = false) (h : TM X a σ H fun x H1 => TM X b σ H1 fun y H2 => OM X (compareOp op) σ x y H2 Q) :
    TM X (.Compare a [op] [b] pos) σ H Q := fun pins s I =>
  wpAny_Compare1 (binT pe_tm pe_tm I h fun v u s2 x y H2 I2 rx ry q => q pins s2 v u I2 rx ry) hm

/-! ### what follows -/
/-- an exception's own dict -/
def ExR (r : RC) (c : Nat) (fs : List D) (d : Option Addr) : Prop := (d = none ∧ fs = []) ∨ ∃ dx vs, d = some dx ∧ fs ≠ [] ∧ r.H dx = some (.xd ((r.B.fl c).zip vs).reverse) ∧ vs.length = (r.B.fl c).length ∧ RVs r fs vs
/-- the class of the c-th exception -/
abbrev EC := Nat → Value
def Good {α β : Type} (ec : EC) (rel : RC → α → β → Prop) (r : RC) (σ : St) (Q : β → Hp → Prop) (W : WX) : R α → Prop
  | .ok a h => ∀ r' b, r'.ns = h → Ext r r' → Rep r' → rel r' a b → Q b r'.H
  | .exc c fs h => ∀ r' d, r'.ns = h → Ext r r' → Rep r' → ExR r' c fs d → W (ec c) d σ r'.H
  | .bad => False
section
variable {α β γ δ : Type} {ec : EC} {rel : RC → α → β → Prop} {rel2 : RC → γ → δ → Prop} {r r' : RC} {σ : St} {Q : β → Hp → Prop} {Q2 : δ → Hp → Prop} {W : WX}
theorem Good.ext {x : R α} (e : Ext r r') (h : Good ec rel r σ Q W x) : Good ec rel r' σ Q W x := by
  cases x with
  | ok a h' => exact fun r2 b n e2 R q => h r2 b n (e.trans e2) R q
  | exc c fs h' => exact fun r2 d n e2 R q => h r2 d n (e.trans e2) R q
  | bad => exact h
/-- a first step, and what follows it -/
theorem Good.step {x : R α} {f : α → Hs → R γ} (h : Good ec rel2 r σ Q2 W (x.bind f))
    (k : ∀ a h1 r1 b, x = .ok a h1 → r1.ns = h1 → Ext r r1 → Rep r1 → rel r1 a b → Good ec rel2 r1 σ Q2 W (f a h1) → Q b r1.H) : Good ec rel r σ Q W x := by
  cases x with
  | ok a h1 => exact fun r1 b n e R q => k a h1 r1 b rfl n e R q (Good.ext e h)
  | exc c fs h1 => exact h
  | bad => exact h
theorem Good.of {o : Option γ} {f : γ → Hs → R α} {h : Hs} (g : Good ec rel r σ Q W ((R.of o h).bind f)) : ∃ a, o = some a ∧ Good ec rel r σ Q W (f a h) := by
  cases o with
  | none => exact False.elim g
  | some a => exact ⟨a, rfl, g⟩
theorem Good.ite {c : Prop} [Decidable c] {x : R α} (g : Good ec rel r σ Q W (if c then x else .bad)) : c ∧ Good ec rel r σ Q W x := by
  by_cases h : c
  · rw [if_pos h] at g; exact ⟨h, g⟩
  · rw [if_neg h] at g; exact False.elim g
theorem Good.nox {x : R α} (h : Good ec rel r σ Q W x.nox) : Good ec rel r σ Q (fun _ _ _ _ => False) x.nox := by
  cases x with
  | ok a h1 => exact h
  | exc c fs h1 => exact h
  | bad => exact h
end
abbrev GV (ec : EC) := Good ec RV
abbrev eqR {α : Type} (_ : RC) (a b : α) : Prop := a = b

/-! ### contexts -/
structure XOk (B : RB) (k : Nat) (X : Cx) : Prop where
  K : X.K = B.K
  nd : X.N.Nodup
  room : X.A.units + 100 < cLine

/-! ### looking -/
theorem lstV_inv {r : RC} (R : Rep r) {d : D} {xs : List D} {v : V} (h : lstV r.ns d = some xs) (q : RV r d v) : ∃ a vs, v = .ref a ∧ r.H a = some (.lst vs) ∧ RVs r xs vs := by
  cases d with
  | lst ys =>
    cases h
    simp only [RV] at q
    obtain ⟨a, vs, rfl, h1, _, h2⟩ := q
    exact ⟨a, vs, rfl, h1, h2⟩
  | ref i =>
    simp only [RV] at q
    obtain ⟨_, rfl⟩ := q
    simp only [lstV] at h
    cases e : r.ns[i]? with
    | none => rw [e] at h; cases h
    | some nd =>
      rw [e] at h
      cases nd with
      | lst ys =>
        cases h
        obtain ⟨vs, h1, h2⟩ := R.nod i _ e
        exact ⟨_, vs, rfl, h1, h2⟩
  | _ => cases h
theorem seqV_inv {r : RC} (R : Rep r) {d : D} {xs : List D} {v : V} (h : seqV r.ns d = some xs) (q : RV r d v) : ∃ a vs, v = .ref a ∧ (SqL r.B.K r.H a vs ∨ SqT r.B.K r.H a vs) ∧ RVs r xs vs := by
  cases d with
  | tup ys =>
    cases h
    simp only [RV] at q
    obtain ⟨a, vs, rfl, h1, h2⟩ := q
    exact ⟨a, vs, rfl, .inr h1, h2⟩
  | lst ys =>
    obtain ⟨a, vs, rfl, h1, h2⟩ := lstV_inv (d := .lst ys) R h q
    exact ⟨a, vs, rfl, .inl (SqL.of h1), h2⟩
  | ref i =>
    obtain ⟨a, vs, rfl, h1, h2⟩ := lstV_inv (d := .ref i) R h q
    exact ⟨a, vs, rfl, .inl (SqL.of h1), h2⟩
  | _ => cases h
theorem rv_int {r : RC} {i : Int} {v : V} (h : RV r (.int i) v) : v = .int i := by simpa only [RV] using h
theorem rv_str {r : RC} {s : List Nat} {v : V} (h : RV r (.str s) v) : v = .str ⟨s.toArray⟩ ∧ okS s := by simpa only [RV] using h
theorem rv_bl {r : RC} {b : Bool} {v : V} (h : RV r (.bl b) v) : v = .bl b := by simpa only [RV] using h
theorem rv_non {r : RC} {v : V} (h : RV r .non v) : v = .non := by simpa only [RV] using h
theorem mk_int {r : RC} (i : Int) : RV r (.int i) (.int i) := by simp only [RV]
theorem mk_str {r : RC} {s : List Nat} (h : okS s) : RV r (.str s) (.str ⟨s.toArray⟩) := by simp only [RV]; exact ⟨trivial, h⟩
theorem mk_bl {r : RC} (b : Bool) : RV r (.bl b) (.bl b) := by simp only [RV]
theorem mk_non {r : RC} : RV r .non .non := by simp only [RV]
/-- a new frozen list, a new tuple -/
theorem new_lst {r : RC} (R : Rep r) {p : Addr} {xs : List D} {vs : List V} (hp : r.H p = none) (h : RVs r xs vs) : Ext r { r with H := upd r.H p (.lst vs) } ∧ Rep { r with H := upd r.H p (.lst vs) } ∧ RV { r with H := upd r.H p (.lst vs) } (.lst xs) (.ref p) := by
  obtain ⟨e, R'⟩ := R.alloc (o := .lst vs) hp
  refine ⟨e, R', ?_⟩
  simp only [RV]
  refine ⟨p, vs, rfl, upd_same, ?_, RVs.ext R e h⟩
  rintro (⟨i, ys, q, z⟩ | q)
  · obtain ⟨ws, h1, _⟩ := R.nod i _ q
    have z' : r.loc i = p := z
    rw [z', hp] at h1; cases h1
  · obtain ⟨ws, h1⟩ := R.pvs p q
    rw [hp] at h1; cases h1
theorem new_tup {r : RC} (R : Rep r) {p : Addr} {xs : List D} {vs : List V} (hp : r.H p = none) (h : RVs r xs vs) : Ext r { r with H := upd r.H p (.tup vs) } ∧ Rep { r with H := upd r.H p (.tup vs) } ∧ RV { r with H := upd r.H p (.tup vs) } (.tup xs) (.ref p) := by
  obtain ⟨e, R'⟩ := R.alloc (o := .tup vs) hp
  refine ⟨e, R', ?_⟩
  simp only [RV]
  exact ⟨p, vs, rfl, .inl (.inl upd_same), RVs.ext R e h⟩
/-- a list is made: frozen, or a node -/
theorem mk_lstOf {ec : EC} {r : RC} {σ : St} {Q : VK} {W : WX} {nd : Bool} {xs : List D} {vs : List V} (R : Rep r) (h : RVs r xs vs) (g : GV ec r σ Q W (lstOf nd xs r.ns)) {p : Addr} (hp : r.H p = none) : Q (.ref p) (upd r.H p (.lst vs)) := by
  cases nd with
  | false =>
    obtain ⟨e, R', q⟩ := new_lst R hp h
    exact g { r with H := upd r.H p (.lst vs) } (.ref p) rfl e R' q
  | true =>
    obtain ⟨e, R', q⟩ := R.node hp h
    exact g (r.grow p vs xs) (.ref p) rfl e R' q
theorem le_line {n : Nat} (h : n ≤ lim) : n ≤ sizeLine := Nat.le_trans h (by decide)
theorem lt_line {n : Nat} (h : n < lim) : n < sizeLine := Nat.lt_of_lt_of_le h (by decide)
theorem str_app (s t : List Nat) : ((⟨s.toArray⟩ : Str) ++ (⟨t.toArray⟩ : Str)) = ⟨(s ++ t).toArray⟩ := by
  show Str.append _ _ = _
  unfold Str.append
  simp

end L2.MP
/-! MpD: the operations. -/
namespace L2.MP
open PySem PySem.Spec PyProof.Rows

/-! ### plain data -/
theorem mapO_cons {α β : Type} {f : α → Option β} {x : α} {xs : List α} {zs : List β} (h : mapO f (x :: xs) = some zs) : ∃ y ys, f x = some y ∧ mapO f xs = some ys ∧ zs = y :: ys := by
  unfold mapO at h
  cases e : f x with
  | none => rw [e] at h; cases h
  | some y =>
    rw [e] at h
    cases e2 : mapO f xs with
    | none => simp only [Option.bind_some, e2, Option.bind_none] at h; cases h
    | some ys =>
      simp only [Option.bind_some, e2] at h
      exact ⟨y, ys, rfl, rfl, (Option.some.inj h).symm⟩
/-- what a value is as data -/
structure DpOk (r : RC) (v : V) (a : D) (n : Nat) (pd : PyData) : Prop where
  dp : Dp r.B.K r.H v pd
  to : toPD a = some pd
  lay : pd.canLay0 = true
  dep : pd.depth ≤ n
theorem deeps_dp {r : RC} {n : Nat} (ih : ∀ (d a : D) (v : V), deep false r.ns n d = some a → RV r d v → ∃ pd, DpOk r v a n pd) :
    ∀ (xs bs : List D) (vs : List V), mapO (deep false r.ns n) xs = some bs → RVs r xs vs → ∃ pds, DpAll r.B.K r.H vs pds ∧ toPDs bs = some pds ∧ PyData.canLayAll0 pds = true ∧ PyData.depthAll pds ≤ n
  | [], bs, vs, h, q => by
    cases h
    rw [RVs.invN q]
    exact ⟨[], .nil, by simp [toPDs], by simp [PyData.canLayAll0], by simp [PyData.depthAll]⟩
  | x :: xs, bs, vs, h, q => by
    obtain ⟨v, ws, rfl, q1, q2⟩ := RVs.inv q
    obtain ⟨y, ys, e1, e2, rfl⟩ := mapO_cons h
    obtain ⟨pd, p⟩ := ih x y v e1 q1
    obtain ⟨pds, p1, p2, p3, p4⟩ := deeps_dp ih xs ys ws e2 q2
    refine ⟨pd :: pds, .cons p.dp p1, by simp [toPDs, p.to, p2], by simp [PyData.canLayAll0, p.lay, p3], ?_⟩
    simp only [PyData.depthAll]
    have := p.dep
    omega
theorem deep_dp {r : RC} (R : Rep r) : ∀ (n : Nat) (d a : D) (v : V), deep false r.ns n d = some a → RV r d v → ∃ pd, DpOk r v a n pd
  | 0, d, a, v, h, q => by simp [deep] at h
  | n + 1, d, a, v, h, q => by
    cases d with
    | non =>
      simp only [deep, Option.some.injEq] at h; subst h
      rw [rv_non q]
      exact ⟨.none, .non, by simp [toPD], by simp [PyData.canLay0], by simp [PyData.depth]⟩
    | bl b =>
      simp only [deep, Option.some.injEq] at h; subst h
      rw [rv_bl q]
      exact ⟨.bool b, .bl b, by simp [toPD], by simp [PyData.canLay0], by simp [PyData.depth]⟩
    | int i =>
      simp only [deep, Option.some.injEq] at h; subst h
      rw [rv_int q]
      exact ⟨.int i, .int i, by simp [toPD], by simp [PyData.canLay0], by simp [PyData.depth]⟩
    | str s =>
      simp only [deep, Option.some.injEq] at h; subst h
      obtain ⟨rfl, hs⟩ := rv_str q
      refine ⟨.str ⟨s.toArray⟩, .str _, by simp [toPD], ?_, by simp [PyData.depth]⟩
      simp only [PyData.canLay0, PyData.strOk]
      have e : s.toArray.all (fun c => decide (c < 1114112)) = true := by
        rw [List.all_toArray, List.all_eq_true]
        exact fun c hc => decide_eq_true (hs c hc)
      exact e
    | tup xs =>
      simp only [deep, Option.map_eq_some_iff] at h
      obtain ⟨bs, hb, rfl⟩ := h
      simp only [RV] at q
      obtain ⟨b, vs, rfl, h1, h2⟩ := q
      obtain ⟨pds, p1, p2, p3, p4⟩ := deeps_dp (fun d a v => deep_dp R n d a v) xs bs vs hb h2
      exact ⟨.tuple pds, .tup h1 p1, by simp [toPD, p2], by simpa [PyData.canLay0] using p3, by simp only [PyData.depth]; omega⟩
    | lst xs =>
      simp only [deep, Option.map_eq_some_iff] at h
      obtain ⟨bs, hb, rfl⟩ := h
      obtain ⟨b, vs, rfl, h1, h2⟩ := lstV_inv (d := .lst xs) R rfl q
      obtain ⟨pds, p1, p2, p3, p4⟩ := deeps_dp (fun d a v => deep_dp R n d a v) xs bs vs hb h2
      exact ⟨.list pds, .lst (SqL.of h1) p1, by simp [toPD, p2], by simpa [PyData.canLay0] using p3, by simp only [PyData.depth]; omega⟩
    | ref i =>
      simp only [deep, Option.bind_eq_some_iff, Option.map_eq_some_iff] at h
      obtain ⟨xs, ⟨nd, hn, hx⟩, bs, hb, rfl⟩ := h
      obtain ⟨b, vs, rfl, h1, h2⟩ := lstV_inv (d := .ref i) (xs := xs) R (by simp [lstV, hn, hx]) q
      obtain ⟨pds, p1, p2, p3, p4⟩ := deeps_dp (fun d a v => deep_dp R n d a v) xs bs vs hb h2
      exact ⟨.list pds, .lst (SqL.of h1) p1, by simp [toPD, p2], by simpa [PyData.canLay0] using p3, by simp only [PyData.depth]; omega⟩
    | exn c fs => simp [deep] at h
    | dic ks vs => simp [deep] at h
    | scr ns => simp [deep] at h
theorem DpOk.shaped {r : RC} {v : V} {a : D} {n : Nat} {pd : PyData} (h : DpOk r v a n pd) (hn : n ≤ 40) : SeqAt.shaped pd = true := by
  unfold SeqAt.shaped
  rw [h.lay, Bool.true_and, decide_eq_true_eq]
  exact Nat.le_trans h.dep (Nat.le_trans hn (by decide))
theorem toPDs_cons {x : D} {xs : List D} {ds : List PyData} (h : toPDs (x :: xs) = some ds) : ∃ p ps, toPD x = some p ∧ toPDs xs = some ps ∧ ds = p :: ps := by
  simp only [toPDs, Option.bind_eq_some_iff, Option.some.injEq] at h
  obtain ⟨p, h1, ps, h2, h3⟩ := h
  exact ⟨p, ps, h1, h2, h3.symm⟩
theorem str_eq (s t : List Nat) : ((⟨s.toArray⟩ : Str) == ⟨t.toArray⟩) = (s == t) := by
  rw [Bool.eq_iff_iff]
  simp
set_option maxHeartbeats 2000000 in
mutual
theorem eqT_eqv : ∀ {a b : D} {p q : PyData}, toPD a = some p → toPD b = some q → p.canLay0 = true → q.canLay0 = true → eqT a b = PyData.eqv p q
  | .tup a, b, p, q, h1, h2, h3, h4 => by
    simp only [toPD, Option.map_eq_some_iff] at h1
    obtain ⟨ps, e1, rfl⟩ := h1
    cases b with
    | tup b =>
      simp only [toPD, Option.map_eq_some_iff] at h2
      obtain ⟨qs, e2, rfl⟩ := h2
      simp only [eqT, PyData.eqv]
      exact eqTs_eqv e1 e2 (by simpa [PyData.canLay0] using h3) (by simpa [PyData.canLay0] using h4)
    | _ => simp only [toPD, Option.map_eq_some_iff, Option.some.injEq, Option.bind_eq_some_iff, reduceCtorEq] at h2 <;> first | (subst h2; simp [eqT, PyData.eqv]) | (obtain ⟨qs, _, rfl⟩ := h2; simp [eqT, PyData.eqv]) | (obtain ⟨ks, _, vs, _, rfl⟩ := h2; simp [eqT, PyData.eqv])
  | .lst a, b, p, q, h1, h2, h3, h4 => by
    simp only [toPD, Option.map_eq_some_iff] at h1
    obtain ⟨ps, e1, rfl⟩ := h1
    cases b with
    | lst b =>
      simp only [toPD, Option.map_eq_some_iff] at h2
      obtain ⟨qs, e2, rfl⟩ := h2
      simp only [eqT, PyData.eqv]
      exact eqTs_eqv e1 e2 (by simpa [PyData.canLay0] using h3) (by simpa [PyData.canLay0] using h4)
    | _ => simp only [toPD, Option.map_eq_some_iff, Option.some.injEq, Option.bind_eq_some_iff, reduceCtorEq] at h2 <;> first | (subst h2; simp [eqT, PyData.eqv]) | (obtain ⟨qs, _, rfl⟩ := h2; simp [eqT, PyData.eqv]) | (obtain ⟨ks, _, vs, _, rfl⟩ := h2; simp [eqT, PyData.eqv])
  | .non, b, p, q, h1, h2, h3, h4 => by
    simp only [toPD, Option.some.injEq] at h1; subst h1
    cases b <;> simp only [toPD, Option.map_eq_some_iff, Option.some.injEq, Option.bind_eq_some_iff, reduceCtorEq] at h2 <;> first | (subst h2; simp [eqT, PyData.eqv]) | (obtain ⟨qs, _, rfl⟩ := h2; simp [eqT, PyData.eqv]) | (obtain ⟨ks, _, vs, _, rfl⟩ := h2; simp [eqT, PyData.eqv])
  | .bl x, b, p, q, h1, h2, h3, h4 => by
    simp only [toPD, Option.some.injEq] at h1; subst h1
    cases b <;> simp only [toPD, Option.map_eq_some_iff, Option.some.injEq, Option.bind_eq_some_iff, reduceCtorEq] at h2 <;> first | (subst h2; simp [eqT, PyData.eqv]) | (obtain ⟨qs, _, rfl⟩ := h2; simp [eqT, PyData.eqv]) | (obtain ⟨ks, _, vs, _, rfl⟩ := h2; simp [eqT, PyData.eqv])
  | .int x, b, p, q, h1, h2, h3, h4 => by
    simp only [toPD, Option.some.injEq] at h1; subst h1
    cases b <;> simp only [toPD, Option.map_eq_some_iff, Option.some.injEq, Option.bind_eq_some_iff, reduceCtorEq] at h2 <;> first | (subst h2; simp [eqT, PyData.eqv]) | (obtain ⟨qs, _, rfl⟩ := h2; simp [eqT, PyData.eqv]) | (obtain ⟨ks, _, vs, _, rfl⟩ := h2; simp [eqT, PyData.eqv])
  | .str x, b, p, q, h1, h2, h3, h4 => by
    simp only [toPD, Option.some.injEq] at h1; subst h1
    cases b <;> simp only [toPD, Option.map_eq_some_iff, Option.some.injEq, Option.bind_eq_some_iff, reduceCtorEq] at h2 <;> first | (subst h2; simp only [eqT, PyData.eqv, str_eq]) | (obtain ⟨qs, _, rfl⟩ := h2; simp [eqT, PyData.eqv]) | (obtain ⟨ks, _, vs, _, rfl⟩ := h2; simp [eqT, PyData.eqv])
  | .ref i, b, p, q, h1, h2, h3, h4 => by simp [toPD] at h1
  | .exn c fs, b, p, q, h1, h2, h3, h4 => by simp [toPD] at h1
  | .scr ns, b, p, q, h1, h2, h3, h4 => by simp [toPD] at h1
  | .dic ks vs, b, p, q, h1, h2, h3, h4 => by
    simp only [toPD, Option.map_eq_some_iff, Option.bind_eq_some_iff] at h1
    obtain ⟨_, _, _, _, rfl⟩ := h1
    simp [PyData.canLay0] at h3
theorem eqTs_eqv : ∀ {a b : List D} {p q : List PyData}, toPDs a = some p → toPDs b = some q → PyData.canLayAll0 p = true → PyData.canLayAll0 q = true → eqTs a b = PyData.eqvAll p q
  | [], b, p, q, h1, h2, h3, h4 => by
    simp only [toPDs, Option.some.injEq] at h1; subst h1
    cases b with
    | nil => simp only [toPDs, Option.some.injEq] at h2; subst h2; simp [eqTs, PyData.eqvAll]
    | cons y ys =>
      obtain ⟨q1, qs, _, _, rfl⟩ := toPDs_cons h2
      simp [eqTs, PyData.eqvAll]
  | x :: xs, b, p, q, h1, h2, h3, h4 => by
    obtain ⟨p1, ps, e1, e2, rfl⟩ := toPDs_cons h1
    cases b with
    | nil => simp only [toPDs, Option.some.injEq] at h2; subst h2; simp [eqTs, PyData.eqvAll]
    | cons y ys =>
      obtain ⟨q1, qs, e3, e4, rfl⟩ := toPDs_cons h2
      simp only [PyData.canLayAll0, Bool.and_eq_true] at h3 h4
      simp only [eqTs, PyData.eqvAll]
      rw [eqT_eqv e1 e3 h3.1 h4.1, eqTs_eqv e2 e4 h3.2 h4.2]
end

/-! ### in, for lists and tuples -/
def rInP (K : PySem.W.Frag) (neg : Bool) : R2 := fun x y H Q => ∃ d ds, Dp K H x d ∧ (Dp K H y (.list ds) ∨ Dp K H y (.tuple ds)) ∧ SeqAt.shaped d = true ∧ SeqAt.shaped (.list ds) = true ∧ Q (.bl (if neg then !ds.any fun z => PyData.eqv z d else ds.any fun z => PyData.eqv z d)) H
theorem lay_tup {ds : List PyData} (h : PyData.canLay0 (.list ds) = true) : PyData.canLay0 (.tuple ds) = true := by simpa only [PyData.canLay0] using h
theorem op_inP {X : Cx} (hu : X.A.units + 65 < cLine) : OpR X (compareOp .In) (rInP X.K false) := by
  intro pins s σ H x y v u Q I rx ry h
  obtain ⟨d, ds, hd, he, sd, se, q⟩ := h
  obtain ⟨as, r1⟩ := Dp.reads I d x v hd rx
  rcases he with he | he
  · obtain ⟨bs, r2⟩ := Dp.reads I (.list ds) y u he ry
    exact SeqAt.in_list_reads r2 r1 (SeqAt.canLay_of_shaped se) (SeqAt.canLay_of_shaped sd) (room_in_shaped sd hu) ⟨.bl _, H, I, rfl, q⟩
  · obtain ⟨bs, r2⟩ := Dp.reads I (.tuple ds) y u he ry
    exact SeqAt.in_tuple_reads r2 r1 (lay_tup (SeqAt.canLay_of_shaped se)) (SeqAt.canLay_of_shaped sd) (room_in_shaped sd hu) ⟨.bl _, H, I, rfl, q⟩
theorem op_notInP {X : Cx} (hu : X.A.units + 65 < cLine) : OpR X (compareOp .NotIn) (rInP X.K true) := by
  intro pins s σ H x y v u Q I rx ry h
  obtain ⟨d, ds, hd, he, sd, se, q⟩ := h
  obtain ⟨as, r1⟩ := Dp.reads I d x v hd rx
  rcases he with he | he
  · obtain ⟨bs, r2⟩ := Dp.reads I (.list ds) y u he ry
    exact SeqAt.notIn_list_reads r2 r1 (SeqAt.canLay_of_shaped se) (SeqAt.canLay_of_shaped sd) (room_in_shaped sd hu) ⟨.bl _, H, I, rfl, q⟩
  · obtain ⟨bs, r2⟩ := Dp.reads I (.tuple ds) y u he ry
    exact SeqAt.notIn_tuple_reads r2 r1 (lay_tup (SeqAt.canLay_of_shaped se)) (SeqAt.canLay_of_shaped sd) (room_in_shaped sd hu) ⟨.bl _, H, I, rfl, q⟩

section
variable {ec : EC} {r : RC} {σ : St} {Q : VK} {W : WX} {X : Cx} {B : RB} {k : Nat} {x y : D} {v1 v2 : V}

theorem done {d : D} {v : V} (R : Rep r) (g : GV ec r σ Q W (.ok d r.ns)) (h : RV r d v) : Q v r.H := g r v rfl (Ext.refl r) R h
theorem tup_inv {xs : List D} {v : V} (h : RV r (.tup xs) v) : ∃ a vs, v = .ref a ∧ SqT r.B.K r.H a vs ∧ RVs r xs vs := by simpa only [RV] using h
theorem mk_tup {a : Addr} {xs : List D} {vs : List V} (p : SqT r.B.K r.H a vs) (q : RVs r xs vs) : RV r (.tup xs) (.ref a) := by
  simp only [RV]
  exact ⟨a, vs, rfl, p, q⟩
theorem RVs.nil_iff {xs : List D} {vs : List V} (h : RVs r xs vs) : vs = [] ↔ xs = [] := by
  have e := h.length
  constructor
  · rintro rfl; exact List.length_eq_zero_iff.mp e
  · rintro rfl; exact List.length_eq_zero_iff.mp e.symm

set_option maxHeartbeats 1000000 in
theorem bin_ok (ok : XOk B k X) (eB : r.B = B) (R : Rep r) {op : Operator} (h1 : RV r x v1) (h2 : RV r y v2) (g : GV ec r σ Q W (binD op x y r.ns)) : OM X (binaryOp op) σ v1 v2 r.H Q := by
  have eK : X.K = r.B.K := by rw [ok.K, eB]
  unfold binD at g
  split at g
  · rw [rv_int h1, rv_int h2]
    exact OM.of op_add ⟨_, _, rfl, rfl, done R g (mk_int _)⟩
  · obtain ⟨hz, g⟩ := Good.ite g
    obtain ⟨rfl, o1⟩ := rv_str h1
    obtain ⟨rfl, o2⟩ := rv_str h2
    refine OM.of op_add_str ⟨_, _, rfl, rfl, ?_, ?_⟩
    · show Array.size _ + Array.size _ ≤ _
      simp only [List.size_toArray]
      exact le_line hz
    · rw [str_app]
      exact done R g (mk_str fun c hc => (List.mem_append.mp hc).elim (o1 c) (o2 c))
  · obtain ⟨hz, g⟩ := Good.ite g
    obtain ⟨a, vs, rfl, p1, q1⟩ := tup_inv h1
    obtain ⟨b, ws, rfl, p2, q2⟩ := tup_inv h2
    refine OM.of op_catA ⟨a, b, vs, ws, rfl, rfl, eK ▸ p1, eK ▸ p2, by rw [← q1.length, ← q2.length]; exact le_line hz, fun e => ?_, fun _ e => ?_, fun _ _ p hp => ?_⟩
    · rw [q1.nil_iff.mp e] at g
      exact done R g (mk_tup p2 q2)
    · rw [q2.nil_iff.mp e, List.append_nil] at g
      exact done R g (mk_tup p1 q1)
    · obtain ⟨e, R', q⟩ := new_tup R hp (q1.append q2)
      exact g { r with H := upd r.H p (.tup (vs ++ ws)) } (.ref p) rfl e R' q
  · obtain ⟨s, hs, g⟩ := Good.of g
    obtain ⟨t, ht, g⟩ := Good.of g
    obtain ⟨hz, g⟩ := Good.ite g
    obtain ⟨a, vs, rfl, p1, q1⟩ := lstV_inv R hs h1
    obtain ⟨b, ws, rfl, p2, q2⟩ := lstV_inv R ht h2
    refine OM.of op_cat ⟨a, b, vs, ws, rfl, rfl, p1, p2, by rw [← q1.length, ← q2.length]; exact le_line hz, fun p hp => ?_⟩
    obtain ⟨e, R', q⟩ := new_lst R hp (q1.append q2)
    exact g { r with H := upd r.H p (.lst (vs ++ ws)) } (.ref p) rfl e R' q
  · rw [rv_int h1, rv_int h2]
    exact OM.of op_sub ⟨_, _, rfl, rfl, done R g (mk_int _)⟩
  · obtain ⟨hz, g⟩ := Good.ite g
    rw [rv_int h1, rv_int h2]
    exact OM.of op_mul ⟨_, _, rfl, rfl, .inl hz, done R g (mk_int _)⟩
  · obtain ⟨s, hs, g⟩ := Good.of g
    obtain ⟨hz, g⟩ := Good.ite g
    obtain ⟨a, vs, rfl, p1, q1⟩ := lstV_inv R hs h1
    rw [rv_int h2]
    refine OM.of op_rep ⟨a, _, vs, rfl, rfl, p1, by omega, by omega, by rw [← q1.length]; exact le_line hz.2.2, fun p hp => ?_⟩
    have qr : ∀ n, RVs r (List.replicate n s).flatten (List.replicate n vs).flatten := fun n => by
      induction n with
      | zero => exact RVs.nil
      | succ n ih => rw [List.replicate_succ, List.replicate_succ, List.flatten_cons, List.flatten_cons]; exact q1.append ih
    obtain ⟨e, R', q⟩ := new_lst R hp (qr _)
    exact g { r with H := upd r.H p (.lst _) } (.ref p) rfl e R' q
  · obtain ⟨hz, g⟩ := Good.ite g
    rw [rv_int h1, rv_int h2]
    exact OM.of op_fdiv ⟨_, _, rfl, rfl, hz, done R g (mk_int _)⟩
  · obtain ⟨hz, g⟩ := Good.ite g
    rw [rv_int h1, rv_int h2]
    exact OM.of op_mod ⟨_, _, rfl, rfl, hz, done R g (mk_int _)⟩
  · obtain ⟨hz, g⟩ := Good.ite g
    rw [rv_int h1, rv_int h2]
    exact OM.of op_pow ⟨_, _, rfl, rfl, ⟨hz.1, by omega, hz.2.2⟩, done R g (mk_int _)⟩
  · obtain ⟨hz, g⟩ := Good.ite g
    rw [rv_int h1, rv_int h2]
    exact OM.of op_shl ⟨_, _, rfl, rfl, ⟨hz.1, by omega, hz.2.2⟩, done R g (mk_int _)⟩
  · obtain ⟨hz, g⟩ := Good.ite g
    rw [rv_int h1, rv_int h2]
    exact OM.of op_shr ⟨_, _, rfl, rfl, hz, done R g (mk_int _)⟩
  · rw [rv_int h1, rv_int h2]
    exact OM.of op_and ⟨_, _, rfl, rfl, done R g (mk_int _)⟩
  · exact False.elim g

theorem eqD_ok {b : Bool} (R : Rep r) (h1 : RV r x v1) (h2 : RV r y v2) (h : eqD r.ns x y = some b) :
    ∃ p q, Dp r.B.K r.H v1 p ∧ Dp r.B.K r.H v2 q ∧ SeqAt.shaped p = true ∧ SeqAt.shaped q = true ∧ b = PyData.eqv p q := by
  simp only [eqD, Option.bind_eq_some_iff, Option.some.injEq] at h
  obtain ⟨a, ha, c, hc, rfl⟩ := h
  obtain ⟨p, p1⟩ := deep_dp R 40 x a v1 ha h1
  obtain ⟨q, q1⟩ := deep_dp R 40 y c v2 hc h2
  exact ⟨p, q, p1.dp, q1.dp, p1.shaped (Nat.le_refl _), q1.shaped (Nat.le_refl _), eqT_eqv p1.to q1.to p1.lay q1.lay⟩
theorem any_eqv {a : D} {p : PyData} (ha : toPD a = some p) (hl : p.canLay0 = true) : ∀ {bs : List D} {ps : List PyData}, toPDs bs = some ps → PyData.canLayAll0 ps = true → (bs.any fun z => eqT z a) = ps.any fun z => PyData.eqv z p
  | [], ps, h, _ => by simp only [toPDs, Option.some.injEq] at h; subst h; rfl
  | b :: bs, ps, h, l => by
    obtain ⟨p1, ps1, e1, e2, rfl⟩ := toPDs_cons h
    simp only [PyData.canLayAll0, Bool.and_eq_true] at l
    rw [List.any_cons, List.any_cons, eqT_eqv e1 ha l.1 hl, any_eqv ha hl e2 l.2]
theorem inD_ok {b : Bool} (R : Rep r) (h1 : RV r x v1) (h2 : RV r y v2) (h : inD r.ns x y = some b) :
    (∃ (c : Nat) (z : Str), v1 = .str ⟨#[c]⟩ ∧ v2 = .str z ∧ b = decide (c ∈ z.cps.toList)) ∨
    ∃ d ds, Dp r.B.K r.H v1 d ∧ (Dp r.B.K r.H v2 (.list ds) ∨ Dp r.B.K r.H v2 (.tuple ds)) ∧ SeqAt.shaped d = true ∧ SeqAt.shaped (.list ds) = true ∧ b = ds.any fun z => PyData.eqv z d := by
  have key : (deep false r.ns 40 x).bind (fun a => (seqV r.ns y).bind fun ys => (mapO (deep false r.ns 40) ys).bind fun bs => some (bs.any fun z => eqT z a)) = some b →
      ∃ d ds, Dp r.B.K r.H v1 d ∧ (Dp r.B.K r.H v2 (.list ds) ∨ Dp r.B.K r.H v2 (.tuple ds)) ∧ SeqAt.shaped d = true ∧ SeqAt.shaped (.list ds) = true ∧ b = ds.any fun z => PyData.eqv z d := fun h => by
    simp only [Option.bind_eq_some_iff, Option.some.injEq] at h
    obtain ⟨a, ha, zs, hz, bs, hb, rfl⟩ := h
    obtain ⟨p, p1⟩ := deep_dp R 40 x a v1 ha h1
    obtain ⟨q, vs, rfl, h3, h4⟩ := seqV_inv R hz h2
    obtain ⟨ds, d1, d2, d3, d4⟩ := deeps_dp (fun d a v => deep_dp R 40 d a v) zs bs vs hb h4
    refine ⟨p, ds, p1.dp, ?_, p1.shaped (Nat.le_refl _), ?_, any_eqv p1.to p1.lay d2 d3⟩
    · rcases h3 with h3 | h3
      · exact .inl (.lst h3 d1)
      · exact .inr (.tup h3 d1)
    · unfold SeqAt.shaped
      simp only [PyData.canLay0, d3, Bool.true_and, decide_eq_true_eq, PyData.depth]
      have d5 : PyData.depthAll ds ≤ 40 := d4
      exact decide_eq_true (by omega)
  unfold inD at h
  split at h
  · rename_i s
    split at h
    · rename_i c
      obtain ⟨rfl, _⟩ := rv_str h1
      obtain ⟨rfl, _⟩ := rv_str h2
      left
      exact ⟨c, _, rfl, rfl, (Option.some.inj h).symm⟩
    · cases h
  · exact .inr (key h)
set_option maxHeartbeats 1000000 in
theorem cmp_ok (ok : XOk B k X) (eB : r.B = B) (R : Rep r) {op : CmpOp} {b : Bool} (h1 : RV r x v1) (h2 : RV r y v2) (h : cmpD r.ns op x y = some b) (g : Q (.bl b) r.H) : OM X (compareOp op) σ v1 v2 r.H Q := by
  have eK : X.K = r.B.K := by rw [ok.K, eB]
  have hu := ok.room
  cases op with
  | Eq =>
    obtain ⟨p, q, d1, d2, s1, s2, rfl⟩ := eqD_ok R h1 h2 h
    exact OM.of (op_eqD (by omega)) ⟨p, q, eK ▸ d1, eK ▸ d2, s1, s2, g⟩
  | NotEq =>
    simp only [cmpD, Option.map_eq_some_iff] at h
    obtain ⟨b', h, rfl⟩ := h
    obtain ⟨p, q, d1, d2, s1, s2, rfl⟩ := eqD_ok R h1 h2 h
    exact OM.of (op_neD (by omega)) ⟨p, q, eK ▸ d1, eK ▸ d2, s1, s2, g⟩
  | In =>
    rcases inD_ok R h1 h2 h with ⟨c, z, rfl, rfl, rfl⟩ | ⟨d, ds, d1, d2, s1, s2, rfl⟩
    · exact OM.of op_in_sign ⟨c, z, rfl, rfl, g⟩
    · exact OM.of (op_inP (by omega)) ⟨d, ds, eK ▸ d1, eK ▸ d2, s1, s2, g⟩
  | NotIn =>
    simp only [cmpD, Option.map_eq_some_iff] at h
    obtain ⟨b', h, rfl⟩ := h
    rcases inD_ok R h1 h2 h with ⟨c, z, rfl, rfl, rfl⟩ | ⟨d, ds, d1, d2, s1, s2, rfl⟩
    · exact OM.of op_notIn_sign ⟨c, z, rfl, rfl, g⟩
    · exact OM.of (op_notInP (by omega)) ⟨d, ds, eK ▸ d1, eK ▸ d2, s1, s2, g⟩
  | Is =>
    simp only [cmpD] at h
    split at h
    · have e := Option.some.inj h
      refine OM.of op_isN ⟨rv_non h2, ?_⟩
      have eb : decide (v1 = V.non) = b := by
        rw [← e]
        cases x with
        | non => rw [rv_non h1]; rfl
        | bl _ => rw [rv_bl h1]; rfl
        | int _ => rw [rv_int h1]; rfl
        | str _ => rw [(rv_str h1).1]; rfl
        | tup _ => obtain ⟨_, _, rfl, _⟩ := tup_inv h1; rfl
        | lst _ => simp only [RV] at h1; obtain ⟨_, _, rfl, _⟩ := h1; rfl
        | ref _ => simp only [RV] at h1; rw [h1.2]; rfl
        | exn _ _ => simp only [RV] at h1; obtain ⟨_, _, rfl, _⟩ := h1; rfl
        | dic _ _ => simp only [RV] at h1; obtain ⟨_, rfl, _⟩ := h1; rfl
        | scr _ => simp only [RV] at h1; obtain ⟨_, rfl, _⟩ := h1; rfl
      rw [eb]
      exact g
    · split at h
      · have e := Option.some.inj h
        refine OM.of op_is_bl ⟨_, _, rv_bl h1, rv_bl h2, ?_⟩
        rw [e]
        exact g
      · cases h
    · cases h
  | IsNot =>
    simp only [cmpD] at h
    split at h
    · have e := Option.some.inj h
      refine OM.of op_notN ⟨rv_non h2, ?_⟩
      have eb : (!decide (v1 = V.non)) = b := by
        rw [← e]
        cases x with
        | non => rw [rv_non h1]; rfl
        | bl _ => rw [rv_bl h1]; rfl
        | int _ => rw [rv_int h1]; rfl
        | str _ => rw [(rv_str h1).1]; rfl
        | tup _ => obtain ⟨_, _, rfl, _⟩ := tup_inv h1; rfl
        | lst _ => simp only [RV] at h1; obtain ⟨_, _, rfl, _⟩ := h1; rfl
        | ref _ => simp only [RV] at h1; rw [h1.2]; rfl
        | exn _ _ => simp only [RV] at h1; obtain ⟨_, _, rfl, _⟩ := h1; rfl
        | dic _ _ => simp only [RV] at h1; obtain ⟨_, rfl, _⟩ := h1; rfl
        | scr _ => simp only [RV] at h1; obtain ⟨_, rfl, _⟩ := h1; rfl
      rw [eb]
      exact g
    · split at h
      · have e := Option.some.inj h
        refine OM.of op_isnot_bl ⟨_, _, rv_bl h1, rv_bl h2, ?_⟩
        rw [e]
        exact g
      · cases h
    · cases h
  | Lt =>
    simp only [cmpD] at h
    split at h
    · rw [rv_int h1, rv_int h2]
      have e := Option.some.inj h
      subst e
      exact OM.of op_lt ⟨_, _, rfl, rfl, g⟩
    · cases h
  | LtE =>
    simp only [cmpD] at h
    split at h
    · rw [rv_int h1, rv_int h2]
      have e := Option.some.inj h
      subst e
      exact OM.of op_le ⟨_, _, rfl, rfl, g⟩
    · cases h
  | Gt =>
    simp only [cmpD] at h
    split at h
    · rw [rv_int h1, rv_int h2]
      have e := Option.some.inj h
      subst e
      exact OM.of op_gt ⟨_, _, rfl, rfl, g⟩
    · cases h
  | GtE =>
    simp only [cmpD] at h
    split at h
    · rw [rv_int h1, rv_int h2]
      have e := Option.some.inj h
      subst e
      exact OM.of op_ge ⟨_, _, rfl, rfl, g⟩
    · cases h
end
end L2.MP
/-! MpD2: built-in functions and methods. -/
namespace L2.MP
open PySem PySem.Spec PyProof.Rows

section
variable {ec : EC} {r : RC} {σ : St} {Q : VK} {W : WX} {X : Cx} {B : RB} {k : Nat} {x y : D} {v1 v2 v : V}

theorem len_str (s : List Nat) : (⟨s.toArray⟩ : Str).length = s.length := by simp [Str.length]
theorem tru_len (n : Nat) (l : List Nat) (h : n = l.length) : (((n : Nat) : Int) != 0) = !l.isEmpty := by
  subst h
  cases l with
  | nil => rfl
  | cons a l =>
    simp only [List.length_cons, List.isEmpty_cons, Bool.not_false, bne_iff_ne, ne_eq]
    omega
theorem emp_eq {xs : List D} {vs : List V} (h : RVs r xs vs) : vs.isEmpty = xs.isEmpty := by
  cases xs with
  | nil => rw [RVs.invN h]; rfl
  | cons a l =>
    obtain ⟨v, ws, rfl, _⟩ := RVs.inv h
    rfl
theorem truD_ok {b : Bool} (R : Rep r) (h : truD r.ns x = some b) (q : RV r x v) : TruV r.B.K v r.H b := by
  cases x with
  | non => rw [rv_non q]; exact (Option.some.inj h).symm
  | bl c => rw [rv_bl q]; exact (Option.some.inj h).symm
  | int i =>
    rw [rv_int q]
    have e := Option.some.inj h
    show b = (i != 0)
    rw [← e]
    by_cases hi : i = 0
    · subst hi; rfl
    · simp [hi]
  | str s =>
    obtain ⟨rfl, _⟩ := rv_str q
    simp only [truD] at h
    split at h
    · rename_i hz
      have e := Option.some.inj h
      refine ⟨by rw [len_str]; exact le_line hz, ?_⟩
      rw [← e, len_str]
      exact (tru_len _ s rfl).symm
    · cases h
  | tup xs =>
    obtain ⟨a, vs, rfl, p, q⟩ := tup_inv q
    have e := Option.some.inj h
    exact .inr (.inl ⟨vs, p, by rw [← e, emp_eq q]⟩)
  | lst xs =>
    obtain ⟨a, vs, rfl, p, q⟩ := lstV_inv (d := .lst xs) R rfl q
    have e := Option.some.inj h
    exact .inl ⟨vs, SqL.of p, by rw [← e, emp_eq q]⟩
  | ref i =>
    simp only [truD, Option.map_eq_some_iff] at h
    obtain ⟨xs, hx, e⟩ := h
    obtain ⟨a, vs, rfl, p, q⟩ := lstV_inv (d := .ref i) (xs := xs) R hx q
    exact .inl ⟨vs, SqL.of p, by rw [← e, emp_eq q]⟩
  | exn c fs => cases h
  | dic ks vs =>
    simp only [RV] at q
    obtain ⟨a, rfl, p, rfl, rfl⟩ := q
    exact .inr (.inr ⟨[], p, (Option.some.inj h).symm⟩)
  | scr ns => cases h

/-! ### places -/
theorem RVs.atI {xs : List D} {vs : List V} {d : D} {i : Int} (h : RVs r xs vs) (e : L2.atI xs i = some d) : ∃ v, L2.atI vs i = some v ∧ RV r d v := by
  unfold L2.atI at e ⊢
  rw [← h.length]
  cases q : ixN xs.length i with
  | none => rw [q] at e; cases e
  | some j =>
    rw [q] at e
    exact RVs.get h e
theorem ix_ok (ok : XOk B k X) (eB : r.B = B) (R : Rep r) {d : D} (h1 : RV r x v1) (h2 : RV r y v2) (h : ixD r.ns x y = some d) (g : ∀ v r', Ext r r' → r'.ns = r.ns → Rep r' → RV r' d v → Q v r'.H) : rIx X.K v1 v2 r.H Q := by
  have eK : X.K = r.B.K := by rw [ok.K, eB]
  rw [eK]
  unfold ixD at h
  split at h
  · rename_i i
    rw [rv_int h2]
    split at h
    · rename_i s
      split at h
      · rename_i hz
        simp only [Option.map_eq_some_iff] at h
        obtain ⟨c, hc, rfl⟩ := h
        obtain ⟨rfl, o⟩ := rv_str h1
        refine .inr (.inr ⟨_, _, c, rfl, rfl, by rw [len_str]; exact le_line hz, hc, g _ r (Ext.refl r) rfl R ?_⟩)
        simp only [RV]
        refine ⟨trivial, fun z hm => ?_⟩
        obtain rfl := List.mem_singleton.mp hm
        unfold L2.atI at hc
        cases q : ixN s.length i with
        | none => rw [q] at hc; cases hc
        | some j =>
          rw [q] at hc
          exact o _ (List.mem_of_getElem? hc)
      · cases h
    · rename_i ns
      simp only [Option.map_eq_some_iff] at h
      obtain ⟨z, hz, rfl⟩ := h
      simp only [RV] at h1
      obtain ⟨a, rfl, sq⟩ := h1
      refine .inl ⟨a, _, i, .int z, rfl, rfl, sq.sq, ?_, g _ r (Ext.refl r) rfl R (mk_int z)⟩
      unfold L2.atI at hz ⊢
      rw [List.length_map]
      cases q : ixN ns.length i with
      | none => rw [q] at hz; cases hz
      | some j =>
        rw [q] at hz
        show (ns.map V.int)[j]? = _
        rw [List.getElem?_map]
        have hz' : ns[j]? = some z := hz
        rw [hz']
        rfl
    · simp only [Option.bind_eq_some_iff] at h
      obtain ⟨xs, hx, e⟩ := h
      obtain ⟨a, vs, rfl, p, q⟩ := seqV_inv R hx h1
      obtain ⟨u, e2, q2⟩ := RVs.atI q e
      rcases p with p | p
      · exact .inl ⟨a, vs, i, u, rfl, rfl, p, e2, g u r (Ext.refl r) rfl R q2⟩
      · exact .inr (.inl ⟨a, vs, i, u, rfl, rfl, p, e2, g u r (Ext.refl r) rfl R q2⟩)
  · cases h

/-! ### slices -/
theorem RVs.cut {xs : List D} {vs : List V} (h : RVs r xs vs) (lo hi : Option Int) : RVs r (cutL xs lo hi) (cutV vs lo hi) := by
  unfold cutL cutV
  rw [← h.length]
  exact (h.drop _).take _
theorem cut_whole {α : Type} {xs : List α} {lo hi : Option Int} (h : HT.sIx xs.length 0 lo = 0 ∧ HT.sIx xs.length xs.length hi = xs.length) : cutL xs lo hi = xs := by
  unfold cutL
  rw [h.1, h.2]
  simp
def rSl3 (K : PySem.W.Frag) : V → Option Int → Option Int → Hp → VK → Prop := fun x lo hi H Q => rSlS x lo hi H Q ∨ (rSlA K x lo hi H Q ∨ rSlL K x lo hi H Q)
theorem sl_3 {X : Cx} : SlR X (rSl3 X.K) := SlR.or sl_str (SlR.or sl_tupA sl_list)
theorem sl_ok (ok : XOk B k X) (eB : r.B = B) (R : Rep r) {d : D} {lo hi : Option Int} (h1 : RV r x v1) (h : slD r.ns x lo hi = some d) (g : GV ec r σ Q W (.ok d r.ns)) : rSl3 X.K v1 lo hi r.H Q := by
  have eK : X.K = r.B.K := by rw [ok.K, eB]
  rw [eK]
  unfold slD at h
  split at h
  · rename_i s
    split at h
    · rename_i hz
      obtain rfl := Option.some.inj h
      obtain ⟨rfl, o⟩ := rv_str h1
      refine .inl ⟨_, rfl, by rw [len_str]; exact le_line hz, ?_⟩
      have e : cutS (⟨s.toArray⟩ : Str) lo hi = ⟨(cutL s lo hi).toArray⟩ := by
        unfold cutS cutL
        rw [len_str]
      rw [e]
      exact done R g (mk_str fun c hc => o c (List.mem_of_mem_drop (List.mem_of_mem_take hc)))
    · cases h
  · rename_i xs
    obtain rfl := Option.some.inj h
    obtain ⟨a, vs, rfl, p, q⟩ := tup_inv h1
    refine .inr (.inl ⟨a, vs, rfl, p, fun hw => ?_, fun _ t ht => ?_⟩)
    · rw [cut_whole (by rw [q.length]; exact hw)] at g
      exact done R g (mk_tup p q)
    · obtain ⟨e, R', q'⟩ := new_tup R ht (q.cut lo hi)
      exact g { r with H := upd r.H t (.tup _) } (.ref t) rfl e R' q'
  · simp only [Option.map_eq_some_iff] at h
    obtain ⟨xs, hx, rfl⟩ := h
    obtain ⟨a, vs, rfl, p, q⟩ := lstV_inv R hx h1
    refine .inr (.inr ⟨a, vs, rfl, SqL.of p, fun t ht => ?_⟩)
    obtain ⟨e, R', q'⟩ := new_lst R ht (q.cut lo hi)
    exact g { r with H := upd r.H t (.lst _) } (.ref t) rfl e R' q'

/-! ### built-ins called -/
theorem len_ok (ok : XOk B k X) (eB : r.B = B) (R : Rep r) {nd : Bool} (h : RV r x v) (g : GV ec r σ Q W (biD .len nd [x] r.ns)) : CM X (.builtin "len") σ [v] r.H Q := by
  have eK : X.K = r.B.K := by rw [ok.K, eB]
  simp only [biD] at g
  split at g
  · obtain ⟨hz, g⟩ := Good.ite g
    obtain ⟨rfl, _⟩ := rv_str h
    refine CM.of call_len ⟨_, _, rfl, ⟨by rw [len_str]; exact le_line hz, rfl⟩, ?_⟩
    rw [len_str]
    exact done R g (mk_int _)
  · rename_i ns
    simp only [RV] at h
    obtain ⟨a, rfl, sq⟩ := h
    refine CM.of call_len ⟨_, _, rfl, .inl ⟨_, eK ▸ sq.sq, rfl⟩, ?_⟩
    rw [List.length_map]
    exact done R g (mk_int _)
  · obtain ⟨xs, hx, g⟩ := Good.of g
    obtain ⟨a, vs, rfl, p, q⟩ := seqV_inv R hx h
    rw [q.length] at g
    rcases p with p | p
    · exact CM.of call_len ⟨_, _, rfl, .inl ⟨vs, eK ▸ p, rfl⟩, done R g (mk_int _)⟩
    · exact CM.of call_len ⟨_, _, rfl, .inr ⟨vs, eK ▸ p, rfl⟩, done R g (mk_int _)⟩
theorem strs_inv : ∀ {xs : List D} {vs : List V} {ss : List (List Nat)}, RVs r xs vs → strsO xs = some ss → vs = (ss.map SX.S).map V.str ∧ ∀ s ∈ ss, okS s
  | [], vs, ss, h, e => by
    cases e
    rw [RVs.invN h]
    exact ⟨rfl, fun _ h => nomatch h⟩
  | x :: xs, vs, ss, h, e => by
    obtain ⟨v, ws, rfl, h1, h2⟩ := RVs.inv h
    obtain ⟨s, ss', e1, e2, rfl⟩ := mapO_cons e
    obtain ⟨rfl, o⟩ := strs_inv h2 e2
    cases x with
    | str t =>
      cases e1
      obtain ⟨rfl, o1⟩ := rv_str h1
      exact ⟨rfl, fun z hz => (List.mem_cons.mp hz).elim (fun q => q ▸ o1) (o z)⟩
    | _ => cases e1
theorem bools_inv : ∀ {xs : List D} {vs : List V} {bs : List Bool}, RVs r xs vs → boolsO xs = some bs → vs = bs.map V.bl
  | [], vs, bs, h, e => by
    cases e
    rw [RVs.invN h]
    rfl
  | x :: xs, vs, bs, h, e => by
    obtain ⟨v, ws, rfl, h1, h2⟩ := RVs.inv h
    obtain ⟨b, bs', e1, e2, rfl⟩ := mapO_cons e
    rw [bools_inv h2 e2]
    cases x with
    | bl t =>
      cases e1
      rw [rv_bl h1]
      rfl
    | _ => cases e1
theorem ints_inv : ∀ {xs : List D} {vs : List V} {bs : List Int}, RVs r xs vs → intsO xs = some bs → vs = bs.map V.int
  | [], vs, bs, h, e => by
    cases e
    rw [RVs.invN h]
    rfl
  | x :: xs, vs, bs, h, e => by
    obtain ⟨v, ws, rfl, h1, h2⟩ := RVs.inv h
    obtain ⟨b, bs', e1, e2, rfl⟩ := mapO_cons e
    rw [ints_inv h2 e2]
    cases x with
    | int t =>
      cases e1
      rw [rv_int h1]
      rfl
    | _ => cases e1
theorem rvs_strs : ∀ {ss : List (List Nat)}, (∀ s ∈ ss, okS s) → RVs r (ss.map D.str) ((ss.map SX.S).map V.str)
  | [], _ => RVs.nil
  | s :: ss, o => RVs.cons (mk_str (o s List.mem_cons_self)) (rvs_strs fun z hz => o z (List.mem_cons_of_mem _ hz))

/-! ### texts -/
theorem split_eq (c : Nat) : ∀ (s acc : List Nat), TL.spl [c] 0 acc s = match splitL c s with
    | [] => [acc]
    | w :: ws => (acc ++ w) :: ws
  | [], acc => by simp [splitL, TL.spl]
  | x :: xs, acc => by
    have hp : TL.pre [c] (x :: xs) = decide (x = c) := by
      unfold TL.pre
      simp only [List.length_singleton, List.take_succ_cons, List.take_zero]
      rw [Bool.eq_iff_iff]
      simp
    by_cases h : x = c
    · rw [TL.spl_hit (by rw [hp]; exact decide_eq_true h)]
      show acc :: TL.spl [c] 0 [] xs = _
      rw [split_eq c xs []]
      simp only [splitL, if_pos h, List.append_nil]
      cases e : splitL c xs with
      | nil => exact absurd e (splitL_ne c xs)
      | cons w ws => rfl
    · rw [TL.spl_miss (by rw [hp]; exact decide_eq_false h), split_eq c xs]
      simp only [splitL, if_neg h]
      cases e : splitL c xs with
      | nil => exact absurd e (splitL_ne c xs)
      | cons w ws => simp
where splitL_ne (c : Nat) : ∀ s : List Nat, splitL c s ≠ []
  | [] => by simp [splitL]
  | x :: xs => by
    unfold splitL
    split
    · simp
    · split <;> simp
theorem split_ok {c : Nat} (hc : c < 256) (s : List Nat) : Txt.split (SX.S s) (SX.S [c]) = (splitL c s).map SX.S := by
  rw [SX.split_S (by simp) (by simp [hc]), split_eq c s []]
  cases e : splitL c s with
  | nil => exact absurd e (split_eq.splitL_ne c s)
  | cons w ws => rfl
theorem part_eq (c : Nat) : ∀ (s acc : List Nat), TL.par [c] acc s = (partS c s).map fun p => (acc ++ p.1, p.2)
  | [], acc => by simp [partS, TL.par]
  | x :: xs, acc => by
    have hp : TL.pre [c] (x :: xs) = decide (x = c) := by
      unfold TL.pre
      simp only [List.length_singleton, List.take_succ_cons, List.take_zero]
      rw [Bool.eq_iff_iff]
      simp
    unfold TL.par partS
    rw [hp]
    by_cases h : x = c
    · simp [h]
    · simp only [h, decide_false, Bool.false_eq_true, if_false, Option.map_map]
      rw [part_eq c xs]
      congr 1
      funext p
      simp
theorem join_eqL (c : List Nat) : ∀ ws : List (List Nat), TL.joinL c ws = joinL c ws
  | [] => rfl
  | [_] => rfl
  | x :: y :: r => by
    show x ++ (c ++ TL.joinL c (y :: r)) = x ++ c ++ joinL c (y :: r)
    rw [join_eqL c (y :: r), List.append_assoc]
theorem ok_split {c : Nat} : ∀ {s : List Nat}, okS s → ∀ w ∈ splitL c s, okS w
  | [], _, w, h => by
    simp only [splitL, List.mem_singleton] at h
    subst h
    exact fun _ h => nomatch h
  | x :: xs, o, w, h => by
    have o2 : okS xs := fun z hz => o z (List.mem_cons_of_mem _ hz)
    unfold splitL at h
    split at h
    · rcases List.mem_cons.mp h with rfl | h
      · exact fun _ h => nomatch h
      · exact ok_split o2 w h
    · split at h
      · obtain rfl := List.mem_singleton.mp h
        exact fun z hz => by obtain rfl := List.mem_singleton.mp hz; exact o _ List.mem_cons_self
      · rename_i w' ws e
        have ih := ok_split (c := c) o2
        rw [e] at ih
        rcases List.mem_cons.mp h with rfl | h
        · intro z hz
          rcases List.mem_cons.mp hz with rfl | hz
          · exact o _ List.mem_cons_self
          · exact ih w' List.mem_cons_self z hz
        · exact ih w (List.mem_cons_of_mem _ h)
theorem ok_part {c : Nat} : ∀ {s a b : List Nat}, okS s → partS c s = some (a, b) → okS a ∧ okS b ∧ c < 1114112
  | [], _, _, _, h => by cases h
  | x :: xs, a, b, o, h => by
    have o2 : okS xs := fun z hz => o z (List.mem_cons_of_mem _ hz)
    unfold partS at h
    split at h
    · rename_i e
      cases h
      exact ⟨(fun _ h => nomatch h), o2, e ▸ o _ List.mem_cons_self⟩
    · simp only [Option.map_eq_some_iff] at h
      obtain ⟨⟨a', b'⟩, h1, h2⟩ := h
      cases h2
      obtain ⟨p, q, t⟩ := ok_part o2 h1
      exact ⟨fun z hz => (List.mem_cons.mp hz).elim (fun e => e ▸ o _ List.mem_cons_self) (p z), q, t⟩
theorem ok_join {c : List Nat} (hc : okS c) : ∀ {ws : List (List Nat)}, (∀ w ∈ ws, okS w) → okS (joinL c ws)
  | [], _ => fun _ h => nomatch h
  | [w], o => o w List.mem_cons_self
  | x :: y :: r, o => fun z hz => by
    rcases List.mem_append.mp hz with hz | hz
    · rcases List.mem_append.mp hz with hz | hz
      · exact o x List.mem_cons_self z hz
      · exact hc z hz
    · exact ok_join hc (fun w hw => o w (List.mem_cons_of_mem _ hw)) z hz
theorem join_len (c : List Nat) : ∀ ws : List (List Nat), (ws.map List.length).sum + ws.length * c.length ≤ (joinL c ws).length + c.length
  | [] => by simp [joinL]
  | [w] => by simp [joinL]
  | x :: y :: r => by
    have ih := join_len c (y :: r)
    show (x.length + ((y :: r).map List.length).sum) + ((y :: r).length + 1) * c.length ≤ (x ++ c ++ joinL c (y :: r)).length + c.length
    rw [List.length_append, List.length_append, Nat.add_mul]
    omega
end
end L2.MP
/-! MpG: defs called where no repr is under way. -/
namespace L2.MP
open PySem PySem.Spec PyProof.Rows
/-- what a def does, wherever no repr is under way -/
structure FnG (P : Program) (w : World) (K : PySem.W.Frag) (mg : Str → Option Value) (base : Heap) (CX : CXT) (k : Nat) (f : Addr) (fd : FuncData) (ps : List Str) (sp : Sp) : Prop where
  size : ∀ {vs : List V} {H : Hp} {Q : VK} {E : XK}, sp vs H Q E → vs.length = ps.length
  go : ∀ {A : Around} {env0 : List Env} {s : Shared} {H : Hp} {args : Args} {us : List Value} {vs : List V} {Q : VK} {E : XK}, A.guards = some [] → Room k A → Env0 P w K mg base A env0 s H →
    BindsTo s fd args (ps.zip us) → Vals vs us → sp vs H Q E → codeAny (model P w) A (.call (.ref f) args) (CR CX env0 P w H s Q E) s
section
variable {X : Cx} {CX : CXT} {k : Nat} {f : Addr} {fd : FuncData} {ps : List Str} {sp : Sp} {dvs : List V} {ds : List Value} {E : St → XK} {x : Str} {p pos : Pos} {e : Expr} {es : List Expr} {t : TA}
theorem run_g {pins : List (Addr × Obj)} {σ : St} {H : Hp} {s : Shared} {Q : VK} {us : List Value} {vs : List V} (F : FnG X.prog X.w X.K X.mg X.base CX k f fd ps sp) (gd : X.A.guards = some []) (hr : Room k X.A) (hb : Binds X.K fd ps []) (hx : PassesAt CX X σ (E σ))
    (I : Inv X pins σ H s) (r : Vals vs us) (h : sp vs H Q (E σ)) : wpAny (model X.prog X.w) X.A (call (.ref f) us) (EP X pins σ Q) X.xe s := by
  have hl : (us ++ []).length = ps.length := by
    rw [List.append_nil, ← r.length]
    exact F.size h
  have bb := hb s us I.kIn hl
  rw [List.append_nil] at bb
  have run := F.go (args := ⟨us, []⟩) gd hr I.env0 bb r h
  refine wpAny_call (codeAny_mono run ?_)
  rintro (e | fl) s' hq
  · exact hx pins H s e s' I hq
  · rcases fl with _ | _ | _ | u
    case ret => exact I.after hq
    all_goals exact False.elim hq
/-- f(e, ..) -/
theorem pe_callG (F : FnG X.prog X.w X.K X.mg X.base CX k f fd ps sp) (gd : X.A.guards = some []) (hr : Room k X.A) (hg : L2.Gl X x) (hm : X.mg x = some (.ref f)) (hk : PySem.W.keepIn X.K (.ref f) = true) (hb : Binds X.K fd ps []) (hx : ∀ σ, PassesAt CX X σ (E σ))
    (ha : PA X (e :: es) t) (hdb : (x == ("__debug__" : Str)) = false) (he : starEach (e :: es) X.env = (false, eval e X.env) :: starEach es X.env) (hpl : (backTo pos (starEach es X.env)).any (·.1) = false) :
    PE X (.Call (.Name x p) (e :: es) [] pos) (fun σ H Q => t σ H fun vs H1 => sp vs H1 Q (E σ)) := ⟨fun pins s σ H Q I h => by
  have args := fun (s0 : Shared) (J : Inv X pins σ H s0) => thn (ha.run pos pins s0 σ H _ J h) fun us s1 ⟨vs, H1, I1, r, q⟩ => (⟨I1.kIn, run_g F gd hr hb (hx σ) I1 r q⟩ : X.K.In s1.heap ∧ wpAny (model X.prog X.w) X.A (call (.ref f) us) (EP X pins σ Q) X.xe s1)
  exact wpAny_Call_Name_kw (ld_glob I hg hm (PySem.W.callWith_K (h₀ := X.base) I.ok.mod.kin hk (args s I) he hpl) hdb)⟩
end
/-- a def's promise, by its body -/
theorem fnG_of {CX : CXT} {P : Program} {w : World} {K : PySem.W.Frag} {mg : Str → Option Value} {base : Heap} {k : Nat} {f : Addr} {x qual : Str} {params : Arguments} {body : List Stmt} {scope : Scope} {fd : FuncData} {N ps : List Str} {sp : Sp}
    (F : FunD K x qual params body scope [] [] f fd) (S : FnScope N ps scope) (size : ∀ {vs : List V} {H : Hp} {Q : VK} {E : XK}, sp vs H Q E → vs.length = ps.length)
    (hbody : ∀ (cdv : Value) (A : Around) (env0 : List Env) (s : Shared) (H : Hp) (vs : List V) (Q : VK) (E : XK), (A.deeper (envOfC qual scope s.heap.objs.size f cdv)).guards = some [] → Room k (A.deeper (envOfC qual scope s.heap.objs.size f cdv)) → sp vs H Q E →
      ∃ t, PSs (cxOf CX P w K mg base N qual scope f cdv A env0 s H E) body t ∧ t { nx := fun _ H' => Q .non H', rt := Q } (start N vs) H) : FnG P w K mg base CX (k + 1) f fd ps sp := by
  obtain ⟨oc, od, dV, kV, doc, pm, an, cdv, ct, osl, rfl, lk, hcd, _, _⟩ := F.ex
  refine ⟨size, ?_⟩
  intro A env0 s H args us vs Q E gd hr e0 hb r hsp
  have old : ∀ b o, base.get? b = some o → s.heap.get? b = some o := fun b o z => (e0.bs b o z).1
  have KX := e0.mod.kin.keeps old
  have nl := e0.mod.nolimit.keeps old
  have hk : ∀ y ∈ ps.zip us, scope.names.lookup y.1 = some .local ∨ (scope.names.lookup y.1 = some .cell ∧ ((cellsFrom (s.heap.objs.size + 1) scope.names []).lookup y.1).isSome = true) := by
    rintro ⟨n, v⟩ hy
    have hn := S.par n (List.of_mem_zip hy).1
    exact hn.imp id fun q => ⟨q, PySem.W.cellsFrom_some _ _ _ (.inl q)⟩
  have inner : ∀ env, env = envOfC qual scope s.heap.objs.size f cdv → True := fun _ _ => trivial
  refine codeAny_call_function hr.depth (KX _ _ lk) rfl S.co S.gen rfl (PySem.W.codeRec_of KX hcd) (hb _ _ _ _ (wpAny_newFunctionEnv_cells S.kind hk ?_))
  rintro env rfl s1 x1
  refine ⟨nl.keeps x1.toInCall.keep, codeAny_func ?_⟩
  obtain ⟨t, ht, hq⟩ := hbody cdv A env0 s H vs Q E gd (hr.deeper _) hsp
  have I := inv_start (CX := CX) (E := E) S hr.hd e0 (size hsp) r x1
  have ends : ∀ {σ' : St} {H' : Hp} {s' : Shared} {v : V} {u : Value}, Inv (cxOf CX P w K mg base N qual scope f cdv A env0 s H E) [] σ' H' s' → RelV v u → Q v H' → CE env0 P w H s Q u s' := by
    intro σ' H' s' v u J rv q
    exact ⟨v, H', J.os, J.bare, J.base, J.hok, rv, q⟩
  refine wpAny_mono (ht.run [] s1 (start N vs) H _ I hq) ?_ (fun _ _ z => z)
  rintro (_ | _ | _ | u) s' hs
  · exact let ⟨_, _, J, q⟩ := hs; ends (v := .non) (u := .none) J rfl q
  · exact let ⟨_, _, _, q⟩ := hs; q.elim
  · exact let ⟨_, _, _, q⟩ := hs; q.elim
  · exact let ⟨_, _, _, J, rv, q⟩ := hs; ends J rv q
/-- the heap that a law starts with: the script alone is tracked -/
theorem law_heap {P : Program} {w : World} {K : PySem.W.Frag} {a : Addr} {h : Heap} {vs : List Value} {ns : List Int} (KX : K.In h) (ha : h.get? a = some { cls := .type "list", data := .seq vs.toArray }) (hi : IntsAre vs ns) (hl : ns.length ≤ sizeLine) :
    ∃ H : Hp, Only H ∧ SqL K H a (ns.map V.int) ∧ HOk P w H h ∧ (∀ b, H b ≠ none → b = a) ∧ (H a ≠ none → K.lookup a = none) := by
  have rv := vals_ints hi
  have hn := hi.length
  rcases hk : K.lookup a with _ | o
  · let u : HO := .frz { cls := .type "list", data := .seq vs.toArray } (.lst (ns.map V.int))
    have at_a : (if a = a then some u else none) = some u := if_pos rfl
    refine ⟨fun b => if b = a then some u else none, fun b => ?_, .inl (.inr ⟨_, at_a⟩), fun b v z => ?_, fun b z => ?_, fun _ => rfl⟩
    · rcases Decidable.em (b = a) with e | e
      · exact .inr ⟨_, _, if_pos e⟩
      · exact .inl (if_neg e)
    · rcases Decidable.em (b = a) with e | e
      · have z2 := (if_pos e).symm.trans z
        cases z2
        rw [e]
        exact ⟨ha, by rw [List.length_map]; exact hl, vs, _, rv, ha⟩
      · exact nomatch (if_neg e).symm.trans z
    · exact Decidable.byContradiction fun e => z (if_neg e)
  · have e := KX a o hk
    rw [ha] at e
    cases e
    have hz : vs.toArray.size ≤ sizeLine := by rw [List.size_toArray, hn]; exact hl
    have sq : SqL K (fun _ => none) a (ns.map V.int) := .inr ⟨_, vs.toArray, _, hk, rfl, rfl, rfl, hz, by simpa using rv⟩
    have ok : HOk P w (fun _ => none) h := fun b u z => by
      have z2 : (none : Option HO) = some u := z
      cases z2
    exact ⟨fun _ => none, fun _ => .inl rfl, sq, ok, fun b z => absurd rfl z, fun z => absurd rfl z⟩
/-- a law's call -/
theorem law_g {P : Program} {w : World} {K : PySem.W.Frag} {mg mb : Str → Option Value} {CX : CXT} {k : Nat} {fa a : Addr} {fd : FuncData} {x : Str} {sp : Sp} {t : Shared} {vs : List Value} {ns : List Int}
    (KX : K.In t.heap) (gm : t.heap.Ns mainGlobals mg) (gb : t.heap.Ns builtinsNs mb) (bb : ∀ x : Str, x ≠ "__name__" → mb x = bootBuiltins x) (nl : t.heap.NoLimit) (hg : t.gens = #[])
    (ha : t.heap.get? a = some { cls := .type "list", data := .seq vs.toArray }) (hi : IntsAre vs ns) (hl : ns.length ≤ sizeLine) (hr : Room k callerA)
    (F : ∀ base : Heap, K.In base → base.Ns mainGlobals mg → FnG P w K mg base CX k fa fd [x] sp) (bind : ∀ (s : Shared) (u : Value), BindsTo s fd ⟨[u], []⟩ [(x, u)])
    (hsp : ∀ H : Hp, SqL K H a (ns.map V.int) → sp [.ref a] H (fun v _ => v = .bl true) fun _ _ _ => False) (hCX : ∀ H e s', CX [] H t (fun _ _ _ => False) e s' → False) :
    codeAny (model P w) callerA (.call (.ref fa) ⟨[.ref a], []⟩) (fun r s' => r = .ok (.ret (.bool true)) ∧ OldK t.heap s'.heap ∧ s'.os = t.os ∧ AllBare s'.gens) t := by
  obtain ⟨H, only, hS, hok, hA, hK⟩ := law_heap (P := P) (w := w) KX ha hi hl
  have isA : ∀ {b : Addr} {o : Obj}, t.heap.get? b = some o → (b = a → False) → (hidT t.heap H).get? b = some o := fun {b o} e n => hidT_get e (Decidable.byContradiction fun z => n (hA b z))
  have ns1 : ∀ {b : Addr} {m : Str → Option Value}, t.heap.Ns b m → (hidT t.heap H).Ns b m := fun {b m} ⟨o, es, ep, e, d, r⟩ => by
    refine ⟨o, es, ep, isA e fun z => ?_, d, r⟩
    rw [z, ha] at e
    cases e
    exact nomatch d
  have kin : K.In (hidT t.heap H) := fun b o e => hidT_get (KX b o e) (Decidable.byContradiction fun z => by
    have z2 := hA b z
    rw [z2] at e z
    rw [hK z] at e
    cases e)
  have lim : (hidT t.heap H).NoLimit := nl.imp fun mc z => ⟨ns1 z.1, z.2⟩
  have env : Env0 P w K mg (hidT t.heap H) callerA [] t H := {
    frames := rfl
    mod := ⟨kin, ns1 gm, ⟨mb, ns1 gb, bb⟩, lim⟩
    bs := fun _ _ e => of_hidT e
    bsz := Nat.le_of_eq (hidT_size _ _)
    funs := trivial
    frf := fun b hb => nomatch hb
    hok := hok
    bare := .of_eq hg }
  refine codeAny_mono ((F _ kin (ns1 gm)).go (args := ⟨[.ref a], []⟩) (us := [.ref a]) (vs := [.ref a]) rfl hr env (bind t (.ref a)) (.cons rfl .nil) (hsp H hS)) ?_
  rintro (e | fl) s' h
  · exact (hCX H e s' h).elim
  rcases fl with _ | _ | _ | u
  case ret =>
    obtain ⟨v, H', os, bare, un, hok', rv, rfl⟩ := h
    cases (show u = Value.bool true from rv)
    refine ⟨rfl, OldK.of_keep fun b o e => ?_, os, bare⟩
    rcases only b with z | ⟨ob, xs, z⟩
    · exact un.keep b o e z (fun m => nomatch m) (fun m => nomatch m)
    · obtain ⟨e1, _⟩ := hok b _ z
      obtain ⟨e2, _⟩ := hok' b _ (un.frzs b ob _ z)
      rw [e] at e1
      cases e1
      exact e2
  all_goals exact False.elim h
end L2.MP
/-! MpR: int, str, repr. -/
namespace L2.MP
open PySem PySem.Spec PyProof.Rows
theorem natOf_val : ∀ (s : List Nat) (n : Nat), natOf s n = s.foldl (fun acc c => acc * 10 + (c - 48)) n
  | [], _ => rfl
  | c :: s, n => by
    simp only [natOf, List.foldl_cons]
    rw [natOf_val s, Nat.mul_comm]
theorem digits_ok {s : List Nat} (h : s.all digit = true) : NumText.AllDigits s := fun c hc => by
  have := List.all_eq_true.mp h c hc
  simpa [digit] using this
section
variable {X : Cx} {B : RB} {k : Nat} {r : RC} {σ σ' : St} {Q : VK} {W : WX} {ec : EC}
theorem int_cm (R : Rep r) {nd : Bool} {xs : List D} {vs : List V} (h : RVs r xs vs) (g : GV ec r σ Q W (biD .int nd xs r.ns)) : CM X (.type "int") σ' vs r.H Q := by
  rcases xs with _ | ⟨x, _ | ⟨y, zs⟩⟩
  · exact False.elim g
  · obtain ⟨v, rfl, hv⟩ := RVs.single h
    cases x with
    | int i =>
      rw [rv_int hv]
      exact CM.of call_int1 (.inl ⟨i, rfl, done R g (mk_int _)⟩)
    | bl b =>
      rw [rv_bl hv]
      exact CM.of call_int1 (.inr ⟨b, rfl, done R g (mk_int _)⟩)
    | str s =>
      obtain ⟨rfl, _⟩ := rv_str hv
      simp only [biD] at g
      obtain ⟨⟨h1, h2, h3⟩, g⟩ := Good.ite g
      refine CM.of call_int_str ⟨_, _, rfl, intText_digits (x := ⟨s.toArray⟩) (by simpa using digits_ok h1) (by simpa using h2) ?_, ?_, ?_⟩
      · show s.toArray.size ≤ 4300
        simp; omega
      · show s.toArray.size ≤ 640
        simp; omega
      · have e : ((natOf s 0 : Nat) : Int) = ((NumText.digitsVal (⟨s.toArray⟩ : Str).cps.toList : Nat) : Int) := by
          rw [natOf_val]
          simp [NumText.digitsVal]
        rw [e] at g
        exact done R g (mk_int _)
    | _ => exact False.elim g
  · cases x <;> exact False.elim g
theorem okS_str (s : String) : okS (strS s) := by
  intro c hc
  have : (strS s) = s.toList.map Char.toNat := by
    unfold strS
    rw [Str.ofString_eq_toList]
  rw [this] at hc
  obtain ⟨ch, _, rfl⟩ := List.mem_map.mp hc
  have := ch.valid
  simp only [Char.toNat]
  rcases this with h | h
  · have h2 : ch.val.toNat < 0xd800 := h
    omega
  · exact h.2
theorem str_cm (R : Rep r) {nd : Bool} {xs : List D} {vs : List V} (h : RVs r xs vs) (g : GV ec r σ Q W (biD .str nd xs r.ns)) : CM X (.type "str") σ' vs r.H Q := by
  rcases xs with _ | ⟨x, _ | ⟨y, zs⟩⟩
  · exact False.elim g
  · obtain ⟨v, rfl, hv⟩ := RVs.single h
    cases x with
    | int i =>
      rw [rv_int hv]
      simp only [biD] at g
      obtain ⟨h1, g⟩ := Good.ite g
      refine CM.of call_str_int ⟨i, rfl, h1, ?_⟩
      have e : (Str.ofString (toString i)) = ⟨(intS i).toArray⟩ := by
        unfold intS strS
        simp
      show Q (.str (Str.ofString (toString i))) r.H
      rw [e]
      exact done R g (mk_str (okS_str _))
    | str s =>
      obtain ⟨rfl, o⟩ := rv_str hv
      exact CM.of SkE.call_str_str ⟨_, rfl, done R g (mk_str o)⟩
    | _ => exact False.elim g
  · cases x <;> exact False.elim g
/-- what a value is to repr -/
theorem readsAll_of {s : Shared} {r : RC} {n : Nat} (f : ∀ (d d' : D) (v : V) (u : Value) (pd : PyData), deep true r.ns n d = some d' → toPD d' = some pd → RV r d v → RelV v u → ∃ as, Reads s.heap u pd as ∧ sysModules ∉ as ∧ pd.depth ≤ n) :
    ∀ (ds ds' : List D) (vs : List V) (us : List Value) (pds : List PyData), mapO (deep true r.ns n) ds = some ds' → toPDs ds' = some pds → RVs r ds vs → Vals vs us → ∃ as, ReadsAll s.heap us pds as ∧ sysModules ∉ as ∧ PyData.depthAll pds ≤ n
  | [], ds', vs, us, pds, h1, h2, h3, h4 => by
    cases h1
    cases h2
    cases RVs.invN h3
    cases h4
    exact ⟨[], ReadsAll.nil, by simp, by simp [PyData.depthAll]⟩
  | d :: ds, ds', vs, us, pds, h1, h2, h3, h4 => by
    simp only [mapO, Option.bind_eq_some_iff] at h1
    obtain ⟨d1, e1, ds1, e2, e3⟩ := h1
    cases e3
    simp only [toPDs, Option.bind_eq_some_iff] at h2
    obtain ⟨p1, k1, ps1, k2, k3⟩ := h2
    cases k3
    obtain ⟨v, ws, rfl, r1, r2⟩ := RVs.inv h3
    cases h4 with
    | cons q1 q2 =>
      obtain ⟨as, a1, a2, a3⟩ := f _ _ _ _ _ e1 k1 r1 q1
      obtain ⟨bs, b1, b2, b3⟩ := readsAll_of f _ _ _ _ _ e2 k2 r2 q2
      refine ⟨as ++ bs, ReadsAll.cons a1 b1, ?_, ?_⟩
      · rw [List.mem_append]
        exact fun z => z.elim a2 b2
      · simp only [PyData.depthAll]
        omega
theorem rv_reads {pins : List (Addr × Obj)} {s : Shared} (R : Rep r) (eK : X.K = r.B.K) (I : Inv X pins σ r.H s) (hsys : ∃ o, X.K.lookup sysModules = some o ∧ o.cls = .type "dict") :
    ∀ (n : Nat) (d d' : D) (v : V) (u : Value) (pd : PyData), deep true r.ns n d = some d' → toPD d' = some pd → RV r d v → RelV v u → ∃ as, Reads s.heap u pd as ∧ sysModules ∉ as ∧ pd.depth ≤ n
  | 0, _, _, _, _, _, h, _, _, _ => by cases h
  | n + 1, d, d', v, u, pd, h1, h2, h3, h4 => by
    have all := readsAll_of (s := s) (rv_reads R eK I hsys n)
    have notl : ∀ {a : Addr} {o : Obj}, s.heap.get? a = some o → o.cls = .type "list" → a ≠ sysModules := fun {a o} ho hc z => by
      obtain ⟨o2, k1, k2⟩ := hsys
      have k3 := I.kIn _ _ k1
      rw [z, k3] at ho
      cases ho
      rw [k2] at hc
      injection hc with e
      exact absurd e (by decide)
    have lst : ∀ {a : Addr} {ds ds' : List D} {vs : List V} {pds : List PyData}, SqL r.B.K r.H a vs → RVs r ds vs → mapO (deep true r.ns n) ds = some ds' → toPDs ds' = some pds → ∃ as, Reads s.heap (.ref a) (.list pds) as ∧ sysModules ∉ as ∧ PyData.depth (.list pds) ≤ n + 1 := fun {a ds ds' vs pds} hs hr e1 e2 => by
      rw [← eK] at hs
      obtain ⟨its, rv, ⟨o, m, ho, hc, _, hd⟩, _⟩ := I.list hs
      obtain ⟨as, q1, q2, q3⟩ := all ds ds' vs its pds e1 e2 hr rv
      refine ⟨a :: as, Reads.list ho hc hd q1, ?_, ?_⟩
      · rw [List.mem_cons]
        exact fun z => z.elim (fun z => notl ho hc z.symm) q2
      · simp only [PyData.depth]; omega
    cases d with
    | non =>
      cases h1; cases h2
      rw [rv_non h3] at h4
      cases h4
      exact ⟨_, Reads.none, by simp, by simp [PyData.depth]⟩
    | bl b =>
      cases h1; cases h2
      rw [rv_bl h3] at h4
      cases h4
      exact ⟨_, Reads.bool b, by simp, by simp [PyData.depth]⟩
    | int i =>
      cases h1; cases h2
      rw [rv_int h3] at h4
      obtain ⟨t, rfl⟩ := h4
      exact ⟨_, Reads.int i t, by simp, by simp [PyData.depth]⟩
    | str x =>
      cases h1; cases h2
      rw [(rv_str h3).1] at h4
      obtain ⟨t, rfl⟩ := h4
      exact ⟨_, Reads.str _ t, by simp, by simp [PyData.depth]⟩
    | tup xs =>
      simp only [deep, Option.map_eq_some_iff] at h1
      obtain ⟨ys, e1, rfl⟩ := h1
      simp only [toPD, Option.map_eq_some_iff] at h2
      obtain ⟨pds, e2, rfl⟩ := h2
      simp only [RV] at h3
      obtain ⟨a, vs, rfl, hs, hr⟩ := h3
      cases (show u = Value.ref a from h4)
      rw [← eK] at hs
      obtain ⟨its, rv, ⟨o, ho, hc, m, hd⟩, _⟩ := I.tuple hs
      obtain ⟨as, q1, q2, q3⟩ := all xs ys vs its pds e1 e2 hr rv
      exact ⟨as, Reads.tuple ho hc hd q1, q2, by simp only [PyData.depth]; omega⟩
    | lst xs =>
      simp only [deep, Option.map_eq_some_iff] at h1
      obtain ⟨ys, e1, rfl⟩ := h1
      simp only [toPD, Option.map_eq_some_iff] at h2
      obtain ⟨pds, e2, rfl⟩ := h2
      simp only [RV] at h3
      obtain ⟨a, vs, rfl, hs, _, hr⟩ := h3
      cases (show u = Value.ref a from h4)
      exact lst (SqL.of hs) hr e1 e2
    | ref i =>
      simp only [deep, Option.bind_eq_some_iff, Option.map_eq_some_iff] at h1
      obtain ⟨xs, e0, ys, e1, rfl⟩ := h1
      simp only [toPD, Option.map_eq_some_iff] at h2
      obtain ⟨pds, e2, rfl⟩ := h2
      obtain ⟨a, vs, rfl, hs, hr⟩ := lstV_inv (d := .ref i) R (by simp only [lstV]; exact Option.bind_eq_some_iff.mpr e0) h3
      cases (show u = Value.ref a from h4)
      exact lst (SqL.of hs) hr e1 e2
    | exn c fs => cases h1
    | scr ns => cases h1
    | dic ks vs =>
      simp only [RV] at h3
      obtain ⟨a, rfl, hs, rfl, rfl⟩ := h3
      cases (show u = Value.ref a from h4)
      simp only [deep, if_true, mapO, Option.bind_some, Option.map_some, Option.some.injEq] at h1
      subst h1
      simp only [toPD, toPDs, Option.bind_some, Option.map_some, Option.some.injEq] at h2
      subst h2
      obtain ⟨_, hd, ws, kv, o, es, ep, ho, hx, hdat, _, hp, _⟩ := dk_of I.hok hs
      cases kv
      have he : es.toList = [] := by
        cases hl : es.toList with
        | nil => rfl
        | cons z zs => rw [hl] at hp; cases hp
      refine ⟨[a] ++ [], Reads.dict (kvs := []) ho hx.1 hdat (by rw [he]; exact ReadsAll.nil) (by rw [he]; exact ReadsAll.nil), ?_, ?_⟩
      · simp only [List.append_nil, List.mem_singleton]
        intro z
        rw [z] at hd
        simp at hd
      · simp [PyData.depth, PyData.depthKv]
theorem repr_cm (R : Rep r) (eK : X.K = r.B.K) (gd : X.A.guards = some []) (hu : X.A.units + 100 < cLine) (hsys : ∃ o, X.K.lookup sysModules = some o ∧ o.cls = .type "dict") {nd : Bool} {xs : List D} {vs : List V} (h : RVs r xs vs)
    (g : GV ec r σ Q W (biD .repr nd xs r.ns)) : CM X (.builtin "repr") σ' vs r.H Q := by
  rcases xs with _ | ⟨x, _ | ⟨y, zs⟩⟩
  · exact False.elim g
  · obtain ⟨v, rfl, hv⟩ := RVs.single h
    simp only [biD] at g
    obtain ⟨pd, hpd, g⟩ := Good.of g
    obtain ⟨⟨h1, h2, hok⟩, g⟩ := Good.ite g
    obtain ⟨d', e1, e2⟩ := Option.bind_eq_some_iff.mp hpd
    have h3 : pd.shown.length ≤ sizeLine := le_line h2
    intro pins s us I rv
    cases rv with
    | @cons _ u _ us ru rs =>
      cases rs
      obtain ⟨as, q1, q2, q3⟩ := rv_reads R eK I hsys 40 x d' v u pd e1 e2 hv ru
      have fin : ∀ {h' : Heap} {t tk : Nat}, (∀ b o, s.heap.get? b = some o → h'.get? b = some o) → EP X pins σ' Q (.str pd.shown t) { s with heap := h', toks := tk } := fun {h' t tk} k => by
        refine ⟨.str pd.shown, r.H, I.kept k, ⟨t, rfl⟩, ?_⟩
        have e : pd.shown = ⟨pd.shown.cps.toList.toArray⟩ := by simp
        have q := done R g (mk_str (okB_ok hok))
        rw [← e] at q
        exact q
      have same : ∀ b o, s.heap.get? b = some o → s.heap.get? b = some o := fun _ _ z => z
      cases q1 with
      | none => exact PySem.P.repr_of_none (by have := fin (t := s.toks) (tk := s.toks + 1) same; simpa [PyData.shown] using this)
      | bool b => exact PySem.P.repr_of_bool (by have := fin (t := s.toks) (tk := s.toks + 1) same; simpa [PyData.shown] using this)
      | int i t => exact PySem.P.repr_of_int (by simpa [PyData.showable] using h1) (by have := fin (t := s.toks) (tk := s.toks + 1) same; simpa [PyData.shown] using this)
      | str z t => exact PySem.P.repr_of_str (by have := fin (t := s.toks) (tk := s.toks + 1) same; simpa [PyData.shown] using this) (by simpa [PyData.shown] using h3)
      | list a1 a2 a3 a4 => exact repr_of_reads' (Reads.list a1 a2 a3 a4) h1 (fun _ => q2) gd (by omega) same (fun h' t tk k => fin k) h3
      | tuple a1 a2 a3 a4 => exact repr_of_reads' (Reads.tuple a1 a2 a3 a4) h1 (fun _ => q2) gd (by omega) same (fun h' t tk k => fin k) h3
      | dict a1 a2 a3 a4 a5 => exact repr_of_reads' (Reads.dict a1 a2 a3 a4 a5) h1 (fun _ => q2) gd (by omega) same (fun h' t tk k => fin k) h3
  · exact False.elim g
end
end L2.MP
/-! MpE: the interpreter's expressions are what the program's expressions do. -/
namespace L2.MP
open PySem PySem.Spec PyProof.Rows

/-! ### weakest readings of the other forms -/
def TTM (X : Cx) (e : Expr) : TT := fun σ H Q => ∀ (pins : List (Addr × Obj)) (s : Shared), Inv X pins σ H s → wpAny (model X.prog X.w) X.A (PySem.isTrue e X.env (eval e X.env)) (TP X pins σ Q) X.xe s
theorem pt_ttm {X : Cx} {e : Expr} : PT X e (TTM X e) := ⟨fun pins s _ _ _ I h => h pins s I⟩
theorem TTM.of {X : Cx} {e : Expr} {t : TT} {σ : St} {H : Hp} {Q : Bool → Hp → Prop} (h : PT X e t) (q : t σ H Q) : TTM X e σ H Q := fun pins s I => h.run pins s σ H Q I q
def AM (X : Cx) (es : List Expr) : TA := fun σ H Q => ∀ (pos : Pos) (pins : List (Addr × Obj)) (s : Shared), Inv X pins σ H s → wpAny (model X.prog X.w) X.A (spliced (backTo pos (starEach es X.env))) (AP X pins σ Q) X.xe s
theorem pa_am {X : Cx} {es : List Expr} : PA X es (AM X es) := ⟨fun pos pins s _ _ _ I h => h pos pins s I⟩
theorem AM.of {X : Cx} {es : List Expr} {t : TA} {σ : St} {H : Hp} {Q : List V → Hp → Prop} (h : PA X es t) (q : t σ H Q) : AM X es σ H Q := fun pos pins s I => h.run pos pins s σ H Q I q
def OMm (X : Cx) (e : Option Expr) : TO := fun σ H Q => ∀ (pins : List (Addr × Obj)) (s : Shared), Inv X pins σ H s → wpAny (model X.prog X.w) X.A (evalPart e X.env) (fun u s' => ∃ o H', Inv X pins σ H' s' ∧ IsPart u o ∧ Q o H') X.xe s
theorem po_om {X : Cx} {e : Option Expr} : PO X e (OMm X e) := ⟨fun pins s _ _ _ I h => h pins s I⟩
theorem OMm.of {X : Cx} {e : Option Expr} {t : TO} {σ : St} {H : Hp} {Q : Option Int → Hp → Prop} (h : PO X e t) (q : t σ H Q) : OMm X e σ H Q := fun pins s I => h.run pins s σ H Q I q
def IM (X : Cx) (tg e : Expr) : TI := fun σ H R => ∀ (pins : List (Addr × Obj)) (s : Shared), Inv X pins σ H s →
  wpAny (model X.prog X.w) X.A (eval e X.env) (fun v s1 => wpAny (model X.prog X.w) X.A (pyIter v) (PIE X pins σ tg R) X.xe s1) X.xe s
theorem pi_im {X : Cx} {tg e : Expr} : PI X tg e (IM X tg e) := ⟨fun pins s _ _ _ I h => h pins s I⟩
theorem IM.of {X : Cx} {tg e : Expr} {t : TI} {σ : St} {H : Hp} {Q : It → Hp → Prop} (h : PI X tg e t) (q : t σ H Q) : IM X tg e σ H Q := fun pins s I => h.run pins s σ H Q I q
def GM (X : Cx) (tg : Expr) : TG := fun v σ H Q => ∀ (pins : List (Addr × Obj)) (s : Shared) (u : Value), Inv X pins σ H s → RelV v u →
  wpAny (model X.prog X.w) X.A (assign tg X.env u) (fun _ s' => ∃ σ' H', Inv X pins σ' H' s' ∧ Q σ' H') X.xe s
theorem pg_gm {X : Cx} {tg : Expr} : PG X tg (GM X tg) := ⟨fun pins s _ _ _ u _ I rv h => h pins s u I rv⟩
theorem GM.of {X : Cx} {tg : Expr} {t : TG} {v : V} {σ : St} {H : Hp} {Q : St → Hp → Prop} (h : PG X tg t) (q : t v σ H Q) : GM X tg v σ H Q := fun pins s u I rv => h.run pins s σ H v u Q I rv q
def GMs (X : Cx) (tgs : List Expr) : TGs := fun vs σ H Q => ∀ (pins : List (Addr × Obj)) (s : Shared) (us : List Value), Inv X pins σ H s → Vals vs us →
  wpAny (model X.prog X.w) X.A (assignInOrder (List.map (fun x => Prod.snd x) (assignEach tgs X.env)) us) (fun _ s' => ∃ σ' H', Inv X pins σ' H' s' ∧ Q σ' H') X.xe s
theorem pgs_gms {X : Cx} {tgs : List Expr} : PGs X tgs (GMs X tgs) := ⟨fun pins s _ _ _ us _ I rv h => h pins s us I rv⟩
theorem GMs.of {X : Cx} {tgs : List Expr} {t : TGs} {vs : List V} {σ : St} {H : Hp} {Q : St → Hp → Prop} (h : PGs X tgs t) (q : t vs σ H Q) : GMs X tgs vs σ H Q := fun pins s us I rv => h.run pins s σ H vs us Q I rv q

/-! ### the program's facts -/
/-- what a def does, told by the interpreter -/
def spOf (ec : EC) (K : PySem.W.Frag) (fl : Nat → List Str) (np : Nat) (g : List D → Hs → R D) : Sp := fun vs H Q E =>
  ∃ (r : RC) (xs : List D), r.B.K = K ∧ r.B.fl = fl ∧ r.B.xa = none ∧ r.H = H ∧ Rep r ∧ RVs r xs vs ∧ vs.length = np ∧ GV ec r [] Q (fun c d _ H => E c d H) (g xs r.ns)
def biN (x : Str) : Bool := (bi? x).isSome || memS ["isinstance", "range", "enumerate", "zip", "int", "bool", "str", "tuple", "list", "dict", "repr", "ValueError", "KeyError", "OverflowError"] x
/-- C(..) of an exception's class, fields fs -/
def tMkX (ec : EC) (fs : List Str) (c : Nat) (t : TA) : St → Hp → XK → Prop := fun σ H Q => t σ H fun vs H1 => vs.length = fs.length ∧ ((fs = [] ∧ Q (ec c) none H1) ∨ (fs ≠ [] ∧ ∀ d, H1 d = none → Q (ec c) (some d) (upd H1 d (.xd (fs.zip vs).reverse))))
/-- an own exception is made -/
def MkOk (ec : EC) (fl : Nat → List Str) (X : Cx) (c : Nat) (x : Str) (n : Nat) (p pos : Pos) : Prop := (n = 0 → PMk X (.Call (.Name x p) [] [] pos) (tMkX ec (fl c) c tNil)) ∧ (n ≠ 0 → ∀ (e : Expr) (es : List Expr) (ta : TA), PA X (e :: es) ta → starEach (e :: es) X.env = (false, eval e X.env) :: starEach es X.env →
  (backTo pos (starEach es X.env)).any (·.1) = false → PMk X (.Call (.Name x p) (e :: es) [] pos) (tMkX ec (fl c) c ta))
structure WF (cf : Cf) (G : Gl) (C : Nat → List D → Hs → R D) (ec : EC) (k : Nat) (P : Program) (w : World) (K : PySem.W.Frag) (fl : Nat → List Str) (mg : Str → Option Value) (base : Heap) : Prop where
  fn : ∀ (f : Nat) (x : Str), cf.fns[f]? = some x → (x == ("__debug__" : Str)) = false ∧ ∃ a fd ps, mg x = some (.ref a) ∧ PySem.W.keepIn K (.ref a) = true ∧ Binds K fd ps [] ∧ FnG P w K mg base (L2.CX P w) k a fd ps (spOf ec K fl ps.length (C f)) ∧ ∀ vs h, C f vs h ≠ .bad → vs.length = ps.length
  gl : ∀ (i : Nat) (x : Str) (d : D), cf.gls[i]? = some x → G.gls[i]? = some d → (x == ("__debug__" : Str)) = false ∧ ∃ v u, mg x = some u ∧ RelV v u ∧ ∀ r : RC, r.B.K = K → RV r d v
  bi : ∀ x : Str, biN x = true → ixOf cf.fns x = none → ixOf cf.exs x = none → mg x = none
  exc : ∀ (c : Nat) (x : Str), cf.exs[c]? = some x → (x == ("__debug__" : Str)) = false ∧ ∃ a, mg x = some (.ref a) ∧ ec c = .ref a
  mkx : ∀ (X : Cx), X.prog = P → X.w = w → X.K = K → X.mg = mg → X.base = base → X.calm = true → Room k X.A → ∀ (c : Nat) (x : Str) (m : Nat) (p pos : Pos), cf.exs[c]? = some x → cf.ars[c]? = some (some m) → L2.Gl X x → MkOk ec fl X c x m p pos
  ars : ∀ (c m : Nat), cf.ars[c]? = some (some m) → (fl c).length = m
  fls : ∀ (c : Nat) (x : Str), cf.exs[c]? = some x → ∃ ns, G.fls[c]? = some ns ∧ fl c = ns.map (fun n => (⟨n.toArray⟩ : Str)) ∧ ns.Nodup
  fno : ∀ (c : Nat) (x : Str), cf.exs[c]? = some x → ∀ a, ec c = .ref a → ∀ f ∈ fl c, PySem.W.findIn K (.ref a) f = some none
  exl : ∀ (c : Nat), c < G.exb.length → ∃ x, cf.exs[c]? = some x
  flc : ∀ (c : Nat) (x : Str), cf.exs[c]? = some x → G.flc[c]? = some (fl c).length
  exk : ∀ (c : Nat) (x : Str), cf.exs[c]? = some x → (∀ a, ec c = .ref a → ExcC K a) ∧ (∀ (c' : Nat) (x' : Str), cf.exs[c']? = some x' → PySem.W.kitOne K (ec c) (ec c') = some (c == c')) ∧ ∀ (s t : String), (s = "ValueError" ∨ s = "KeyError" ∨ s = "OverflowError") → G.exb[c]? = some t → PySem.W.kitOne K (ec c) (.type s) = some (t == s)
  sys : ∃ o, K.lookup sysModules = some o ∧ o.cls = .type "dict"
  exm : ∀ (c c' : Nat) (x x' : Str), cf.exs[c]? = some x → cf.exs[c']? = some x' → PySem.W.exmOne K (ec c) (ec c') = some (decide (c = c'))
/-- a place of the program's text: its slots, its scope -/
structure XG (cf : Cf) (G : Gl) (C : Nat → List D → Hs → R D) (ec : EC) (k : Nat) (B : RB) (N : List Str) (sc : Scope) (X : Cx) : Prop where
  eK : X.K = B.K
  nd : N.Nodup
  room : X.A.units + 100 < cLine
  gd : X.A.guards = some []
  eN : X.N = N
  eS : X.env.scope = sc
  nn : ∀ x ∈ N, (x == ("__debug__" : Str)) = false ∧ (x == ("__classdict__" : Str)) = false
  xa : ∀ a c d, B.xa = some (a, c, d) → ∃ oe vs, (a, oe) ∈ X.pn ∧ oe.data = .fields vs ∧ Zc (ec c) d oe ∧ ∃ x, cf.exs[c]? = some x
  calm : cf.calm = true → X.calm = true ∧ Room k X.A ∧ B.xa = none
  wf : WF cf G C ec k X.prog X.w X.K B.fl X.mg X.base
section
variable {cf : Cf} {G : Gl} {C : Nat → List D → Hs → R D} {ec : EC} {k : Nat} {B : RB} {N : List Str} {sc : Scope} {X : Cx}
theorem XG.ok (g : XG cf G C ec k B N sc X) : XOk B k X := ⟨g.eK, by rw [g.eN]; exact g.nd, g.room⟩

def SndE (G : Gl) (C : Nat → List D → Hs → R D) (ec : EC) (B : RB) (X : Cx) (e : Expr) (m : E) : Prop :=
  ∀ ⦃W : WX⦄, Takes X W → ∀ ⦃σ : St⦄ ⦃r : RC⦄ ⦃sl : Sl⦄ ⦃Q : VK⦄, r.B = B → Rep r → RS r sl σ → GV ec r σ Q W (evE G C m sl r.ns) → TM X e σ r.H Q
def evT (G : Gl) (C : Nat → List D → Hs → R D) (m : E) (sl : Sl) (h : Hs) : R Bool := (evE G C m sl h).bind fun x h => R.of (truD h x) h
def SndT (G : Gl) (C : Nat → List D → Hs → R D) (ec : EC) (B : RB) (X : Cx) (e : Expr) (m : E) : Prop :=
  ∀ ⦃W : WX⦄, Takes X W → ∀ ⦃σ : St⦄ ⦃r : RC⦄ ⦃sl : Sl⦄ ⦃Q : Bool → Hp → Prop⦄, r.B = B → Rep r → RS r sl σ → Good ec eqR r σ Q W (evT G C m sl r.ns) → TTM X e σ r.H Q
def SndA (G : Gl) (C : Nat → List D → Hs → R D) (ec : EC) (B : RB) (X : Cx) (es : List Expr) (ms : List E) : Prop :=
  ∀ ⦃W : WX⦄, Takes X W → ∀ ⦃σ : St⦄ ⦃r : RC⦄ ⦃sl : Sl⦄ ⦃Q : List V → Hp → Prop⦄, r.B = B → Rep r → RS r sl σ → Good ec RVs r σ Q W (evEs G C ms sl r.ns) → AM X es σ r.H Q
def SndO (G : Gl) (C : Nat → List D → Hs → R D) (ec : EC) (B : RB) (X : Cx) (e : Option Expr) (m : Option E) : Prop :=
  ∀ ⦃W : WX⦄, Takes X W → ∀ ⦃σ : St⦄ ⦃r : RC⦄ ⦃sl : Sl⦄ ⦃Q : Option Int → Hp → Prop⦄, r.B = B → Rep r → RS r sl σ → Good ec eqR r σ Q W (evO G C m sl r.ns) → OMm X e σ r.H Q
/-- an iterator that yields xs while the sources stand -/
def ItR (r : RC) (xs : List D × Src) (J : It) : Prop := ∀ r1, Ext r r1 → Rep r1 → chk xs.2 r1.ns = true → ∀ i : Nat,
  (∀ x, xs.1[i]? = some x → J.go i r1.H ∧ ∀ v H', J.yld i r1.H v H' → ∃ r2, r2.H = H' ∧ Ext r1 r2 ∧ Rep r2 ∧ r2.ns = r1.ns ∧ RV r2 x v) ∧ (xs.1.length ≤ i → J.stop i r1.H)
def SndI (G : Gl) (C : Nat → List D → Hs → R D) (ec : EC) (B : RB) (X : Cx) (tg e : Expr) (m : I) : Prop :=
  ∀ ⦃W : WX⦄, Takes X W → ∀ ⦃σ : St⦄ ⦃r : RC⦄ ⦃sl : Sl⦄ ⦃Q : It → Hp → Prop⦄, r.B = B → Rep r → RS r sl σ → Good ec ItR r σ Q W (evI G C m sl r.ns) → IM X tg e σ r.H Q

/-! ### lemmas on steps -/
theorem ixOf_get : ∀ {l : List Str} {x : Str} {i : Nat}, ixOf l x = some i → l[i]? = some x
  | [], _, _, h => by simp [ixOf] at h
  | y :: l, x, i, h => by
    simp only [ixOf] at h
    split at h
    · rename_i e
      cases h
      simp [e]
    · obtain ⟨j, hj, rfl⟩ := Option.map_eq_some_iff.mp h
      simpa using ixOf_get hj
theorem Good.conv {α β : Type} {rel : RC → α → β → Prop} {r : RC} {σ σ' : St} {Q : β → Hp → Prop} {W W' : WX} {x : R α} (h : Good ec rel r σ Q W x) (hw : ∀ c d H, W c d σ H → W' c d σ' H) : Good ec rel r σ' Q W' x := by
  cases x with
  | ok a h1 => exact h
  | exc c fs h1 => exact fun r' d n e R q => hw _ _ _ (h r' d n e R q)
  | bad => exact h
theorem Good.okI {α β : Type} {rel : RC → α → β → Prop} {r : RC} {σ : St} {Q : β → Hp → Prop} {W : WX} {a : α} {b : β} (R : Rep r) (h : Good ec rel r σ Q W (.ok a r.ns)) (q : rel r a b) : Q b r.H := h r b rfl (Ext.refl r) R q
end
end L2.MP
/-! MpE1: the single forms of expressions. -/
namespace L2.MP
open PySem PySem.Spec PyProof.Rows
section
variable {cf : Cf} {G : Gl} {C : Nat → List D → Hs → R D} {ec : EC} {k n : Nat} {B : RB} {N : List Str} {sc : Scope} {X : Cx} {e a b c : Expr} {es : List Expr} {m ma mb mc : E} {ms : List E} {pos p2 p : Pos}

theorem of_bind {α β : Type} {o : Option α} {f : α → Option β} {z : β} (h : o.bind f = some z) : ∃ a, o = some a ∧ f a = some z := Option.bind_eq_some_iff.mp h
theorem loc_vis {x : Str} {i : Nat} (h : loc? N sc x = some i) : N[i]? = some x ∧ Vis sc x := by
  unfold loc? at h
  split at h
  · rename_i q; exact ⟨ixOf_get h, .inl q⟩
  · rename_i q; exact ⟨ixOf_get h, .inr (.inl q)⟩
  · rename_i q; exact ⟨ixOf_get h, .inr (.inr q)⟩
  · cases h
theorem glo_gl (g : XG cf G C ec k B N sc X) {x : Str} (h : glo? sc x = true) : L2.Gl X x := by
  unfold glo? at h
  show X.env.scope.names.lookup x = _
  rw [g.eS]
  split at h
  · assumption
  · cases h
theorem snd_cst {cst : Const} {j : Nat} {d : D} (h : cst? cst = some d) : SndE G C ec B X (.Constant cst j pos) (.cst d) := by
  intro W tk σ r sl Q eB R S g
  simp only [evE] at g
  unfold cst? at h
  split at h
  · cases h; exact TM.of pe_non (g.okI R mk_non)
  · cases h; exact TM.of pe_bl (g.okI R (mk_bl _))
  · cases h; exact TM.of pe_int (g.okI R (mk_int _))
  · split at h
    · rename_i s hs
      cases h
      have q := mk_str (r := r) (okB_ok hs)
      obtain ⟨cps⟩ := s
      exact TM.of pe_str (g.okI R q)
    · cases h
  · cases h
theorem snd_var (g0 : XG cf G C ec k B N sc X) {x : Str} {i : Nat} (h : loc? N sc x = some i) : SndE G C ec B X (.Name x pos) (.var i) := by
  intro W tk σ r sl Q eB R S g
  obtain ⟨h1, h2⟩ := loc_vis h
  obtain ⟨d1, d2⟩ := g0.nn x (List.mem_of_getElem? h1)
  refine TM.of (pe_var (i := i) (by rw [g0.eN]; exact h1) (by rw [g0.eS]; exact h2) d1 d2) ?_
  simp only [evE] at g
  split at g
  · rename_i d hd
    obtain ⟨v, e1, e2⟩ := S.2 i d hd
    exact ⟨v, e1, g.okI R e2⟩
  · exact False.elim g
theorem snd_glb (g0 : XG cf G C ec k B N sc X) {x : Str} {i : Nat} (hg : glo? sc x = true) (h : ixOf cf.gls x = some i) : SndE G C ec B X (.Name x pos) (.glb i) := by
  intro W tk σ r sl Q eB R S g
  simp only [evE] at g
  cases e : G.gls[i]? with
  | none => rw [e] at g; exact False.elim g
  | some d =>
    rw [e] at g
    obtain ⟨hd, v, u, h1, h2, h3⟩ := g0.wf.gl i x d (ixOf_get h) e
    exact TM.of (pe_glob (glo_gl g0 hg) h1 h2 hd) (g.okI R (h3 r (by rw [eB, g0.eK])))
theorem snd_bin (g0 : XG cf G C ec k B N sc X) {op : Operator} (ha : SndE G C ec B X a ma) (hb : SndE G C ec B X b mb) : SndE G C ec B X (.BinOp a op b pos) (.bin op ma mb) := by
  intro W tk σ r sl Q eB R S g
  simp only [evE] at g
  refine TM.bin (ha tk eB R S (g.step fun x h1 r1 v1 _ n1 e1 R1 q1 g1 => ?_))
  subst n1
  refine hb tk (e1.B.trans eB) R1 (S.ext R e1) (g1.step fun y h2 r2 v2 _ n2 e2 R2 q2 g2 => ?_)
  subst n2
  exact bin_ok (g0.ok) (e2.B.trans (e1.B.trans eB)) R2 (RV.ext R1 e2 q1) q2 g2
theorem snd_cmp (g0 : XG cf G C ec k B N sc X) {op : CmpOp} (hm : behindInMarks op b = false) (ha : SndE G C ec B X a ma) (hb : SndE G C ec B X b mb) : SndE G C ec B X (.Compare a [op] [b] pos) (.cmp op ma mb) := by
  intro W tk σ r sl Q eB R S g
  simp only [evE] at g
  refine TM.cmp hm (ha tk eB R S (g.step fun x h1 r1 v1 _ n1 e1 R1 q1 g1 => ?_))
  subst n1
  refine hb tk (e1.B.trans eB) R1 (S.ext R e1) (g1.step fun y h2 r2 v2 _ n2 e2 R2 q2 g2 => ?_)
  subst n2
  obtain ⟨t, ht, g2⟩ := Good.of g2
  exact cmp_ok (g0.ok) (e2.B.trans (e1.B.trans eB)) R2 (RV.ext R1 e2 q1) q2 ht (g2.okI R2 (mk_bl _))
/-- the comparison's reading, at every slots -/
def rAl (X : Cx) (op : CmpOp) : R2 := fun x y H Q => ∀ σ, OM X (compareOp op) σ x y H Q
theorem op_al {op : CmpOp} : OpR X (compareOp op) (rAl X op) := fun pins s σ H x y v u Q I rx ry h => h σ pins s v u I rx ry
theorem chn_tm (g0 : XG cf G C ec k B N sc X) {op op2 : CmpOp} (ha : SndE G C ec B X a ma) (hb : SndE G C ec B X b mb) (hc : SndE G C ec B X c mc) {W : WX} (tk : Takes X W) {σ : St} {r : RC} {sl : Sl} {Q : VK} (eB : r.B = B) (R : Rep r) (S : RS r sl σ)
    (g : GV ec r σ Q W (evE G C (.chn op op2 ma mb mc) sl r.ns)) : tChain (rAl X op) (rAl X op2) (TM X a) (TM X b) (TM X c) σ r.H Q := by
  simp only [evE] at g
  refine ha tk eB R S (g.step fun x h1 r1 v1 _ n1 e1 R1 q1 g1 => ?_)
  subst n1
  refine hb tk (e1.B.trans eB) R1 (S.ext R e1) (g1.step fun y h2 r2 v2 _ n2 e2 R2 q2 g2 => ?_)
  subst n2
  obtain ⟨t, ht, g2⟩ := Good.of g2
  intro σ2
  have eB2 := e2.B.trans (e1.B.trans eB)
  refine cmp_ok (g0.ok) eB2 R2 (RV.ext R1 e2 q1) q2 ht ⟨t, rfl, ?_⟩
  cases t with
  | false => exact g2.okI R2 (mk_bl _)
  | true =>
    refine hc tk eB2 R2 ((S.ext R e1).ext R1 e2) (g2.step fun z h3 r3 v3 _ n3 e3 R3 q3 g3 => ?_)
    subst n3
    obtain ⟨t, ht, g3⟩ := Good.of g3
    intro σ3
    exact cmp_ok (g0.ok) (e3.B.trans eB2) R3 (RV.ext R2 e3 q2) q3 ht (g3.okI R3 (mk_bl _))
theorem snd_chn (g0 : XG cf G C ec k B N sc X) {op op2 : CmpOp} (hm : lastMarks [op, op2] [b, c] = false) (ha : SndE G C ec B X a ma) (hb : SndE G C ec B X b mb) (hc : SndE G C ec B X c mc) : SndE G C ec B X (.Compare a [op, op2] [b, c] pos) (.chn op op2 ma mb mc) := by
  intro W tk σ r sl Q eB R S g
  exact TM.of (pe_chain op_al op_al pe_tm pe_tm pe_tm hm) (chn_tm g0 ha hb hc tk eB R S g)
theorem snd_neg (ha : SndE G C ec B X a ma) : SndE G C ec B X (.UnaryOp .USub a pos) (.neg ma) := by
  intro W tk σ r sl Q eB R S g
  simp only [evE] at g
  refine TM.of (pe_un un_neg pe_tm) (ha tk eB R S (g.step fun x h1 r1 v1 _ n1 e1 R1 q1 g1 => ?_))
  subst n1
  split at g1
  · rw [rv_int q1]
    exact ⟨_, rfl, g1.okI R1 (mk_int _)⟩
  · exact False.elim g1
theorem snd_not (g0 : XG cf G C ec k B N sc X) (ha : SndE G C ec B X a ma) : SndE G C ec B X (.UnaryOp .Not a pos) (.not ma) := by
  intro W tk σ r sl Q eB R S g
  simp only [evE] at g
  refine TM.of (pe_notT pe_tm) (ha tk eB R S (g.step fun x h1 r1 v1 _ n1 e1 R1 q1 g1 => ?_))
  subst n1
  obtain ⟨t, ht, g1⟩ := Good.of g1
  exact ⟨t, by rw [g0.eK, ← eB, ← e1.B]; exact truD_ok R1 ht q1, g1.okI R1 (mk_bl _)⟩
theorem snd_and (g0 : XG cf G C ec k B N sc X) (ha : SndE G C ec B X a ma) (hb : SndE G C ec B X (.BoolOp .And (b :: es) pos) mb) : SndE G C ec B X (.BoolOp .And (a :: b :: es) pos) (.and ma mb) := by
  intro W tk σ r sl Q eB R S g
  simp only [evE] at g
  refine TM.of (pe_andT pe_tm pe_tm) (ha tk eB R S (g.step fun x h1 r1 v1 _ n1 e1 R1 q1 g1 => ?_))
  subst n1
  obtain ⟨t, ht, g1⟩ := Good.of g1
  refine ⟨t, by rw [g0.eK, ← eB, ← e1.B]; exact truD_ok R1 ht q1, ?_⟩
  cases t with
  | true => exact hb tk (e1.B.trans eB) R1 (S.ext R e1) g1
  | false => exact g1.okI R1 q1
theorem snd_or (g0 : XG cf G C ec k B N sc X) (ha : SndE G C ec B X a ma) (hb : SndE G C ec B X (.BoolOp .Or (b :: es) pos) mb) : SndE G C ec B X (.BoolOp .Or (a :: b :: es) pos) (.or ma mb) := by
  intro W tk σ r sl Q eB R S g
  simp only [evE] at g
  refine TM.of (pe_orT pe_tm pe_tm) (ha tk eB R S (g.step fun x h1 r1 v1 _ n1 e1 R1 q1 g1 => ?_))
  subst n1
  obtain ⟨t, ht, g1⟩ := Good.of g1
  refine ⟨t, by rw [g0.eK, ← eB, ← e1.B]; exact truD_ok R1 ht q1, ?_⟩
  cases t with
  | true => exact g1.okI R1 q1
  | false => exact hb tk (e1.B.trans eB) R1 (S.ext R e1) g1
theorem snd_one {op : BoolOp} (ha : SndE G C ec B X a ma) : SndE G C ec B X (.BoolOp op [a] pos) ma := by
  intro W tk σ r sl Q eB R S g
  exact TM.of (pe_one pe_tm) (ha tk eB R S g)
theorem snd_ifx (ht : SndT G C ec B X c mc) (ha : SndE G C ec B X a ma) (hb : SndE G C ec B X b mb) : SndE G C ec B X (.IfExp c a b pos) (.ifx mc ma mb) := by
  intro W tk σ r sl Q eB R S g
  refine TM.of (pe_ifExp pt_ttm pe_tm pe_tm) (ht tk eB R S (Good.step (rel2 := RV) (Q2 := Q) (f := fun t h => if t then evE G C ma sl h else evE G C mb sl h) ?_ fun t h1 r1 v1 _ n1 e1 R1 q1 g1 => ?_))
  · simp only [evE] at g
    unfold evT
    cases e : evE G C mc sl r.ns with
    | ok x h1 =>
      rw [e] at g
      simp only [MP.R.bind] at g ⊢
      exact g
    | exc c fs h1 => rw [e] at g; exact g
    | bad => rw [e] at g; exact g
  · subst n1
    cases q1
    cases t with
    | true => exact ha tk (e1.B.trans eB) R1 (S.ext R e1) g1
    | false => exact hb tk (e1.B.trans eB) R1 (S.ext R e1) g1
theorem evEs_len : ∀ {ms : List E} {sl : Sl} {h h' : Hs} {vs : List D}, evEs G C ms sl h = .ok vs h' → vs.length = ms.length
  | [], sl, h, h', vs, e => by simp only [evEs, R.ok.injEq] at e; rw [← e.1]; rfl
  | m :: ms, sl, h, h', vs, e => by
    simp only [evEs] at e
    cases e1 : evE G C m sl h with
    | ok x h1 =>
      rw [e1] at e
      simp only [R.bind] at e
      cases e2 : evEs G C ms sl h1 with
      | ok xs h2 =>
        rw [e2] at e
        simp only [R.ok.injEq] at e
        rw [← e.1]
        simp [evEs_len e2]
      | exc c fs h2 => rw [e2] at e; cases e
      | bad => rw [e2] at e; cases e
    | exc c fs h2 => rw [e1] at e; cases e
    | bad => rw [e1] at e; cases e
theorem snd_tup {k1 : Nat} (hl : ms.length ≤ 1000) (ha : SndA G C ec B X es ms) : SndE G C ec B X (.Tuple es k1 pos) (.tup ms) := by
  intro W tk σ r sl Q eB R S g
  simp only [evE] at g
  refine TM.of (pe_tup pa_am) (ha tk eB R S (g.step fun xs h1 r1 vs ev n1 e1 R1 q1 g1 => ?_))
  subst n1
  refine ⟨?_, fun p hp => ?_⟩
  · rw [← q1.length, evEs_len ev]
    exact Nat.le_trans hl (by decide)
  · obtain ⟨e, R', q⟩ := new_tup R1 hp q1
    exact g1 { r1 with H := upd r1.H p (.tup vs) } (.ref p) rfl e R' q
theorem snd_lst {nd : Bool} (hl : ms.length ≤ 1000) (ha : SndA G C ec B X es ms) : SndE G C ec B X (.List es pos) (.lst ms nd) := by
  intro W tk σ r sl Q eB R S g
  simp only [evE] at g
  refine TM.of (pe_lst pa_am) (ha tk eB R S (g.step fun xs h1 r1 vs ev n1 e1 R1 q1 g1 => ?_))
  subst n1
  refine ⟨?_, fun p hp => mk_lstOf R1 q1 g1 hp⟩
  rw [← q1.length, evEs_len ev]
  exact Nat.le_trans hl (by decide)
theorem snd_emp : SndE G C ec B X (.Dict [] [] pos) .emp := by
  intro W tk σ r sl Q eB R S g
  simp only [evE] at g
  refine TM.of pe_dnewK fun p hp => ?_
  obtain ⟨e, R'⟩ := R.alloc (o := .dK []) hp
  exact g { r with H := upd r.H p (.dK []) } (.ref p) rfl e R' (by simp only [RV]; exact ⟨p, rfl, upd_same, trivial, trivial⟩)
theorem snd_ix (g0 : XG cf G C ec k B N sc X) (hp : PlainIx b) (ha : SndE G C ec B X a ma) (hb : SndE G C ec B X b mb) : SndE G C ec B X (.Subscript a b pos) (.ix ma mb) := by
  intro W tk σ r sl Q eB R S g
  simp only [evE] at g
  refine TM.of (pe_ix ix_seq pe_tm pe_tm hp) (ha tk eB R S (g.step fun x h1 r1 v1 _ n1 e1 R1 q1 g1 => ?_))
  subst n1
  refine hb tk (e1.B.trans eB) R1 (S.ext R e1) (g1.step fun y h2 r2 v2 _ n2 e2 R2 q2 g2 => ?_)
  subst n2
  cases e : ixD r2.ns x y with
  | none => rw [e] at g2; exact False.elim g2
  | some d =>
    rw [e] at g2
    exact ix_ok (g0.ok) (e2.B.trans (e1.B.trans eB)) R2 (RV.ext R1 e2 q1) q2 e fun v r' e' n' R' q' => g2 r' v n' e' R' q'
theorem snd_o_none : SndO G C ec B X none none := by
  intro W tk σ r sl Q eB R S g
  simp only [evO] at g
  exact OMm.of po_none (g.okI R rfl)
theorem snd_o_some (ha : SndE G C ec B X a ma) : SndO G C ec B X (some a) (some ma) := by
  intro W tk σ r sl Q eB R S g
  simp only [evO] at g
  refine OMm.of (po_some pe_tm) (ha tk eB R S (g.step fun x h1 r1 v1 _ n1 e1 R1 q1 g1 => ?_))
  subst n1
  split at g1
  · exact ⟨_, rv_int q1, g1.okI R1 rfl⟩
  · exact False.elim g1
theorem snd_sl (g0 : XG cf G C ec k B N sc X) {lo hi : Option Expr} {ml mh : Option E} (ha : SndE G C ec B X a ma) (hl : SndO G C ec B X lo ml) (hh : SndO G C ec B X hi mh) : SndE G C ec B X (.Subscript a (.Slice lo hi none p2) pos) (.sl ma ml mh) := by
  intro W tk σ r sl Q eB R S g
  simp only [evE] at g
  refine TM.of (pe_slice sl_3 pe_tm po_om po_om) (ha tk eB R S (g.step fun x h1 r1 v1 _ n1 e1 R1 q1 g1 => ?_))
  subst n1
  refine hl tk (e1.B.trans eB) R1 (S.ext R e1) (g1.step fun y h2 r2 v2 _ n2 e2 R2 q2 g2 => ?_)
  subst n2
  cases q2
  refine hh tk (e2.B.trans (e1.B.trans eB)) R2 ((S.ext R e1).ext R1 e2) (g2.step fun z h3 r3 v3 _ n3 e3 R3 q3 g3 => ?_)
  subst n3
  cases q3
  cases e : slD r3.ns x y z with
  | none => rw [e] at g3; exact False.elim g3
  | some d =>
    rw [e] at g3
    exact sl_ok (g0.ok) (e3.B.trans (e2.B.trans (e1.B.trans eB))) R3 (RV.ext R2 e3 (RV.ext R1 e2 q1)) e g3
theorem snd_a_nil : SndA G C ec B X [] [] := by
  intro W tk σ r sl Q eB R S g
  simp only [evEs] at g
  exact AM.of pa_nil (g.okI R RVs.nil)
theorem snd_a_cons (hs : starEach (e :: es) X.env = (false, eval e X.env) :: starEach es X.env) (ha : SndE G C ec B X e m) (hb : SndA G C ec B X es ms) : SndA G C ec B X (e :: es) (m :: ms) := by
  intro W tk σ r sl Q eB R S g
  simp only [evEs] at g
  refine AM.of (pa_cons pe_tm pa_am hs) (ha tk eB R S (g.step fun x h1 r1 v1 _ n1 e1 R1 q1 g1 => ?_))
  subst n1
  refine hb tk (e1.B.trans eB) R1 (S.ext R e1) (g1.step fun y h2 r2 v2 _ n2 e2 R2 q2 g2 => ?_)
  subst n2
  exact g2.okI R2 (RVs.cons (RV.ext R1 e2 q1) q2)
end
end L2.MP
/-! MpE2: tests. -/
namespace L2.MP
open PySem PySem.Spec PyProof.Rows
section
variable {cf : Cf} {G : Gl} {C : Nat → List D → Hs → R D} {ec : EC} {k n : Nat} {B : RB} {N : List Str} {sc : Scope} {X : Cx} {e a b c : Expr} {es : List Expr} {m ma mb mc : E} {ms : List E} {pos p2 p : Pos}

theorem Rbind_assoc {α β γ : Type} (x : R α) (f : α → Hs → R β) (g : β → Hs → R γ) : (x.bind f).bind g = x.bind fun a h => (f a h).bind g := by
  cases x <;> rfl
theorem evT_and (ma mb : E) (sl : Sl) (h : Hs) : evT G C (.and ma mb) sl h = (evT G C ma sl h).bind fun t h => if t then evT G C mb sl h else .ok false h := by
  unfold evT
  simp only [evE]
  cases evE G C ma sl h with
  | ok x h1 =>
    show ((MP.R.of (truD h1 x) h1).bind _).bind _ = (MP.R.of (truD h1 x) h1).bind _
    cases e : truD h1 x with
    | none => rfl
    | some t =>
      cases t with
      | true => rfl
      | false =>
        show MP.R.of (truD h1 x) h1 = _
        rw [e]; rfl
  | exc c fs h1 => rfl
  | bad => rfl
theorem evT_or (ma mb : E) (sl : Sl) (h : Hs) : evT G C (.or ma mb) sl h = (evT G C ma sl h).bind fun t h => if t then .ok true h else evT G C mb sl h := by
  unfold evT
  simp only [evE]
  cases evE G C ma sl h with
  | ok x h1 =>
    show ((MP.R.of (truD h1 x) h1).bind _).bind _ = (MP.R.of (truD h1 x) h1).bind _
    cases e : truD h1 x with
    | none => rfl
    | some t =>
      cases t with
      | false => rfl
      | true =>
        show MP.R.of (truD h1 x) h1 = _
        rw [e]; rfl
  | exc c fs h1 => rfl
  | bad => rfl
theorem evT_not (ma : E) (sl : Sl) (h : Hs) : evT G C (.not ma) sl h = (evT G C ma sl h).bind fun t h => .ok (!t) h := by
  unfold evT
  simp only [evE]
  cases evE G C ma sl h with
  | ok x h1 =>
    show ((MP.R.of (truD h1 x) h1).bind _).bind _ = (MP.R.of (truD h1 x) h1).bind _
    cases e : truD h1 x with
    | none => rfl
    | some t => rfl
  | exc c fs h1 => rfl
  | bad => rfl
theorem evT_ifx (mc ma mb : E) (sl : Sl) (h : Hs) : evT G C (.ifx mc ma mb) sl h = (evT G C mc sl h).bind fun t h => if t then evT G C ma sl h else evT G C mb sl h := by
  unfold evT
  simp only [evE]
  cases evE G C mc sl h with
  | ok x h1 =>
    show ((MP.R.of (truD h1 x) h1).bind _).bind _ = (MP.R.of (truD h1 x) h1).bind _
    cases e : truD h1 x with
    | none => rfl
    | some t => cases t <;> rfl
  | exc c fs h1 => rfl
  | bad => rfl
theorem snt_plain (g0 : XG cf G C ec k B N sc X) (he : ∀ whole, PySem.isTrue a X.env whole = (do let v ← whole; standAt a.pos; holding [v] (truthy v))) (ha : SndE G C ec B X a ma) : SndT G C ec B X a ma := by
  intro W tk σ r sl Q eB R S g
  unfold evT at g
  refine TTM.of (pt_truth pe_tm he) (ha tk eB R S (g.step fun x h1 r1 v1 _ n1 e1 R1 q1 g1 => ?_))
  subst n1
  cases ht : truD r1.ns x with
  | none => rw [ht] at g1; exact False.elim g1
  | some t =>
    rw [ht] at g1
    exact ⟨t, by rw [g0.eK, ← eB, ← e1.B]; exact truD_ok R1 ht q1, g1.okI R1 rfl⟩
theorem snt_not (ha : SndT G C ec B X a ma) : SndT G C ec B X (.UnaryOp .Not a pos) (.not ma) := by
  intro W tk σ r sl Q eB R S g
  rw [evT_not] at g
  refine TTM.of (pt_not pt_ttm) (ha tk eB R S (g.step fun x h1 r1 v1 _ n1 e1 R1 q1 g1 => ?_))
  subst n1
  cases q1
  exact g1.okI R1 rfl
theorem snt_cmp (g0 : XG cf G C ec k B N sc X) {op : CmpOp} (hm : behindInMarks op b = false) (ha : SndE G C ec B X a ma) (hb : SndE G C ec B X b mb) : SndT G C ec B X (.Compare a [op] [b] pos) (.cmp op ma mb) := by
  intro W tk σ r sl Q eB R S g
  have g : Good ec eqR r σ Q W ((evE G C ma sl r.ns).bind fun x h => (evE G C mb sl h).bind fun y h => (MP.R.of (cmpD h op x y) h).bind fun b h => MP.R.of (truD h (.bl b)) h) := by
    unfold evT at g
    simp only [evE, Rbind_assoc] at g
    exact g
  refine TTM.of (pt_cmpR op_al pe_tm pe_tm hm) (ha tk eB R S (g.step fun x h1 r1 v1 _ n1 e1 R1 q1 g1 => ?_))
  subst n1
  refine hb tk (e1.B.trans eB) R1 (S.ext R e1) (g1.step fun y h2 r2 v2 _ n2 e2 R2 q2 g2 => ?_)
  subst n2
  obtain ⟨t, ht, g2⟩ := Good.of g2
  intro σ2
  exact cmp_ok (g0.ok) (e2.B.trans (e1.B.trans eB)) R2 (RV.ext R1 e2 q1) q2 ht ⟨t, rfl, g2.okI R2 rfl⟩
theorem snt_chn (g0 : XG cf G C ec k B N sc X) {op op2 : CmpOp} (hm : lastMarks [op, op2] [b, c] = false) (ha : SndE G C ec B X a ma) (hb : SndE G C ec B X b mb) (hc : SndE G C ec B X c mc) : SndT G C ec B X (.Compare a [op, op2] [b, c] pos) (.chn op op2 ma mb mc) := by
  intro W tk σ r sl Q eB R S g
  refine TTM.of (pt_chain op_al op_al pe_tm pe_tm pe_tm hm) (chn_tm g0 ha hb hc tk eB R S (W := W) ?_)
  unfold evT at g
  have key : ∀ x : MP.R D, (∀ d h, x = .ok d h → ∃ t, d = .bl t) → Good ec eqR r σ Q W (x.bind fun x h => MP.R.of (truD h x) h) → GV ec r σ (fun x H' => ∃ k, x = .bl k ∧ Q k H') W x := fun x hx g => by
    cases x with
    | ok d h =>
      obtain ⟨t, rfl⟩ := hx d h rfl
      exact fun r' v n e R' q => ⟨t, rv_bl q, g r' t n e R' rfl⟩
    | exc c fs h => exact g
    | bad => exact g
  refine key _ (fun d h e => ?_) g
  simp only [evE] at e
  cases e1 : evE G C ma sl r.ns with
  | ok x h1 =>
    rw [e1] at e
    simp only [MP.R.bind] at e
    cases e2 : evE G C mb sl h1 with
    | ok y h2 =>
      rw [e2] at e
      simp only at e
      cases e3 : cmpD h2 op x y with
      | none => rw [e3] at e; cases e
      | some t =>
        rw [e3] at e
        cases t with
        | false => cases e; exact ⟨_, rfl⟩
        | true =>
          simp only [MP.R.of, if_true] at e
          cases e4 : evE G C mc sl h2 with
          | ok z h3 =>
            rw [e4] at e
            simp only at e
            cases e5 : cmpD h3 op2 y z with
            | none => rw [e5] at e; cases e
            | some t => rw [e5] at e; cases e; exact ⟨_, rfl⟩
          | exc c fs h3 => rw [e4] at e; cases e
          | bad => rw [e4] at e; cases e
    | exc c fs h2 => rw [e2] at e; cases e
    | bad => rw [e2] at e; cases e
  | exc c fs h1 => rw [e1] at e; cases e
  | bad => rw [e1] at e; cases e
theorem snt_ifx (ht : SndT G C ec B X c mc) (ha : SndT G C ec B X a ma) (hb : SndT G C ec B X b mb) : SndT G C ec B X (.IfExp c a b pos) (.ifx mc ma mb) := by
  intro W tk σ r sl Q eB R S g pins s I
  rw [evT_ifx] at g
  show wpAny _ _ (PySem.isTrue c X.env (eval c X.env) >>= fun t => if t = true then PySem.isTrue a X.env (eval a X.env) else PySem.isTrue b X.env (eval b X.env)) _ _ _
  have hq : TTM X c σ r.H fun t H => if t = true then TTM X a σ H Q else TTM X b σ H Q := ht tk eB R S (g.step fun t h1 r1 v1 _ n1 e1 R1 q1 g1 => by
    subst n1
    cases q1
    cases t with
    | true => exact ha tk (e1.B.trans eB) R1 (S.ext R e1) g1
    | false => exact hb tk (e1.B.trans eB) R1 (S.ext R e1) g1)
  refine wpAny_bind (thn (hq pins s I) fun t s1 ⟨H1, I1, q1⟩ => ?_)
  · cases t with
    | true => exact q1 pins s1 I1
    | false => exact q1 pins s1 I1
/-- as a test, whatever was evaluated -/
def SndW (G : Gl) (C : Nat → List D → Hs → R D) (ec : EC) (B : RB) (X : Cx) (e : Expr) (m : E) : Prop :=
  ∀ ⦃W : WX⦄, Takes X W → ∀ ⦃σ : St⦄ ⦃r : RC⦄ ⦃sl : Sl⦄ ⦃Q : Bool → Hp → Prop⦄, r.B = B → Rep r → RS r sl σ → Good ec eqR r σ Q W (evT G C m sl r.ns) →
    ∀ (wh : Sem Value) (pins : List (Addr × Obj)) (s : Shared), Inv X pins σ r.H s → wpAny (model X.prog X.w) X.A (PySem.isTrue e X.env wh) (TP X pins σ Q) X.xe s
def WM (X : Cx) (e : Expr) : TT := fun σ H Q => ∀ (wh : Sem Value) (pins : List (Addr × Obj)) (s : Shared), Inv X pins σ H s → wpAny (model X.prog X.w) X.A (PySem.isTrue e X.env wh) (TP X pins σ Q) X.xe s
theorem pw_wm {X : Cx} {e : Expr} : PW X e (WM X e) := ⟨fun wh pins s _ _ _ I h => h wh pins s I⟩
theorem SndW.t (h : SndW G C ec B X e m) : SndT G C ec B X e m := by
  intro W tk σ r sl Q eB R S g pins s I
  exact h tk eB R S g _ pins s I
theorem snw_one {op : BoolOp} (ha : SndT G C ec B X a ma) : SndW G C ec B X (.BoolOp op [a] pos) ma := by
  intro W tk σ r sl Q eB R S g wh pins s I
  cases op with
  | And => exact (pw_and1 pt_ttm).run wh pins s σ r.H Q I (ha tk eB R S g)
  | Or => exact (pw_or1 pt_ttm).run wh pins s σ r.H Q I (ha tk eB R S g)
theorem snw_and (ha : SndT G C ec B X a ma) (hb : SndW G C ec B X (.BoolOp .And (b :: es) pos) mb) : SndW G C ec B X (.BoolOp .And (a :: b :: es) pos) (.and ma mb) := by
  intro W tk σ r sl Q eB R S g wh pins s I
  rw [evT_and] at g
  refine (pw_and pt_ttm pw_wm).run wh pins s σ r.H Q I (ha tk eB R S (g.step fun t h1 r1 v1 _ n1 e1 R1 q1 g1 => ?_))
  subst n1
  cases q1
  cases t with
  | true => exact hb tk (e1.B.trans eB) R1 (S.ext R e1) g1
  | false => exact g1.okI R1 rfl
theorem snw_or (ha : SndT G C ec B X a ma) (hb : SndW G C ec B X (.BoolOp .Or (b :: es) pos) mb) : SndW G C ec B X (.BoolOp .Or (a :: b :: es) pos) (.or ma mb) := by
  intro W tk σ r sl Q eB R S g wh pins s I
  rw [evT_or] at g
  refine (pw_or pt_ttm pw_wm).run wh pins s σ r.H Q I (ha tk eB R S (g.step fun t h1 r1 v1 _ n1 e1 R1 q1 g1 => ?_))
  subst n1
  cases q1
  cases t with
  | true => exact g1.okI R1 rfl
  | false => exact hb tk (e1.B.trans eB) R1 (S.ext R e1) g1
end
end L2.MP
/-! MpE3: what a call leaves. -/
namespace L2.MP
open PySem PySem.Spec PyProof.Rows

mutual
def refOk (n : Nat) : D → Prop
  | .ref i => i < n
  | .tup xs => refOks n xs
  | .lst xs => refOks n xs
  | .exn _ fs => refOks n fs
  | _ => True
def refOks (n : Nat) : List D → Prop
  | [] => True
  | x :: xs => refOk n x ∧ refOks n xs
end
mutual
theorem RV.refOk {r : RC} : ∀ {d : D} {v : V}, RV r d v → refOk r.ns.length d
  | .non, _, _ => by simp only [MP.refOk]
  | .bl _, _, _ => by simp only [MP.refOk]
  | .int _, _, _ => by simp only [MP.refOk]
  | .str _, _, _ => by simp only [MP.refOk]
  | .ref i, _, h => by
    simp only [RV] at h
    simp only [MP.refOk]; exact h.1
  | .tup xs, _, h => by
    simp only [RV] at h
    obtain ⟨a, vs, rfl, _, h2⟩ := h
    simp only [MP.refOk]; exact RVs.refOks h2
  | .lst xs, _, h => by
    simp only [RV] at h
    obtain ⟨a, vs, rfl, _, _, h2⟩ := h
    simp only [MP.refOk]; exact RVs.refOks h2
  | .exn c fs, _, h => by
    simp only [RV] at h
    obtain ⟨a, d, rfl, _, h2⟩ := h
    simp only [MP.refOk]
    rcases h2 with ⟨_, rfl⟩ | ⟨dx, vs, rfl, _, _, _, h5⟩
    · simp only [MP.refOks]
    · exact RVs.refOks h5
  | .dic _ _, _, _ => by simp only [MP.refOk]
  | .scr _, _, _ => by simp only [MP.refOk]
theorem RVs.refOks {r : RC} : ∀ {xs : List D} {vs : List V}, RVs r xs vs → refOks r.ns.length xs
  | [], _, _ => by simp only [MP.refOks]
  | x :: xs, _, h => by
    obtain ⟨v, ws, rfl, h1, h2⟩ := RVs.inv h
    simp only [MP.refOks]
    exact ⟨RV.refOk h1, RVs.refOks h2⟩
end
/-- r2: r with fewer nodes -/
structure Sub (n : Nat) (r r2 : RC) : Prop where
  B : r2.B = r.B
  H : r2.H = r.H
  w : ∀ a, r2.W a → r.W a
  loc : ∀ j, j < n → r2.loc j = r.loc j
  len : n ≤ r2.ns.length
section
variable {n : Nat} {r r2 : RC}
theorem SqW.sub (s : Sub n r r2) {a : Addr} {vs : List V} (h : SqW r a vs) : SqW r2 a vs := by
  rcases h with ⟨h, w⟩ | h
  · exact .inl ⟨by rw [s.H]; exact h, fun z => w (s.w a z)⟩
  · exact .inr (by rw [s.B]; exact h)
mutual
theorem RV.sub (s : Sub n r r2) : ∀ {d : D} {v : V}, refOk n d → RV r d v → RV r2 d v
  | .non, _, _, h => by simpa only [RV] using h
  | .bl _, _, _, h => by simpa only [RV] using h
  | .int _, _, _, h => by simpa only [RV] using h
  | .str _, _, _, h => by simpa only [RV] using h
  | .ref i, _, k, h => by
    simp only [MP.refOk] at k
    simp only [RV] at h ⊢
    exact ⟨Nat.lt_of_lt_of_le k s.len, by rw [h.2, s.loc i k]⟩
  | .tup xs, _, k, h => by
    simp only [MP.refOk] at k
    simp only [RV] at h ⊢
    obtain ⟨a, vs, rfl, h1, h2⟩ := h
    exact ⟨a, vs, rfl, by rw [s.B, s.H]; exact h1, RVs.sub s k h2⟩
  | .lst xs, _, k, h => by
    simp only [MP.refOk] at k
    simp only [RV] at h ⊢
    obtain ⟨a, vs, rfl, h1, w, h2⟩ := h
    exact ⟨a, vs, rfl, by rw [s.H]; exact h1, fun z => w (s.w a z), RVs.sub s k h2⟩
  | .exn c fs, _, k, h => by
    simp only [MP.refOk] at k
    simp only [RV] at h ⊢
    obtain ⟨a, d, rfl, h1, h2⟩ := h
    refine ⟨a, d, rfl, by rw [s.B]; exact h1, ?_⟩
    rcases h2 with h2 | ⟨dx, vs, rfl, hne, h3, h4, h5⟩
    · exact .inl h2
    · exact .inr ⟨dx, vs, rfl, hne, by rw [s.B, s.H]; exact h3, by rw [s.B]; exact h4, RVs.sub s k h5⟩
  | .dic _ _, _, _, h => by
    simp only [RV] at h ⊢
    obtain ⟨a, rfl, h1, h2⟩ := h
    exact ⟨a, rfl, by rw [s.H]; exact h1, h2⟩
  | .scr _, _, _, h => by
    simp only [RV] at h ⊢
    obtain ⟨a, rfl, h1⟩ := h
    exact ⟨a, rfl, SqW.sub s h1⟩
theorem RVs.sub (s : Sub n r r2) : ∀ {xs : List D} {vs : List V}, refOks n xs → RVs r xs vs → RVs r2 xs vs
  | [], _, _, h => by rw [RVs.invN h]; exact RVs.nil
  | x :: xs, _, k, h => by
    simp only [MP.refOks] at k
    obtain ⟨v, ws, rfl, h1, h2⟩ := RVs.inv h
    exact RVs.cons (RV.sub s k.1 h1) (RVs.sub s k.2 h2)
end
theorem RVs.frzs {f : D → Option D} (ih : ∀ (d d' : D) (v : V), f d = some d' → RV r d v → RV r2 d' v) : ∀ {xs ys : List D} {vs : List V}, mapO f xs = some ys → RVs r xs vs → RVs r2 ys vs
  | [], ys, vs, e, h => by
    cases e
    rw [RVs.invN h]; exact RVs.nil
  | x :: xs, ys, vs, e, h => by
    obtain ⟨y, ys, e1, e2, rfl⟩ := mapO_cons e
    obtain ⟨v, ws, rfl, h1, h2⟩ := RVs.inv h
    exact RVs.cons (ih x y v e1 h1) (RVs.frzs ih e2 h2)
theorem RV.frz {x : Nat} (R : Rep r) (s : Sub n r r2) (hn : ∀ i, n ≤ i → i < r.ns.length → i ≠ x → ¬ r2.W (r.loc i)) : ∀ (k : Nat) (d d' : D) (v : V), frz r.ns n x k d = some d' → RV r d v → RV r2 d' v
  | 0, d, d', v, e, h => by simp [MP.frz] at e
  | k + 1, d, d', v, e, h => by
    have ih := RV.frz R s hn k
    cases d with
    | non => simp only [MP.frz, Option.some.injEq] at e; subst e; exact RV.sub s (by simp only [MP.refOk]) h
    | bl b => simp only [MP.frz, Option.some.injEq] at e; subst e; exact RV.sub s (by simp only [MP.refOk]) h
    | int i => simp only [MP.frz, Option.some.injEq] at e; subst e; exact RV.sub s (by simp only [MP.refOk]) h
    | str t => simp only [MP.frz, Option.some.injEq] at e; subst e; exact RV.sub s (by simp only [MP.refOk]) h
    | dic ks vs => simp only [MP.frz, Option.some.injEq] at e; subst e; exact RV.sub s (by simp only [MP.refOk]) h
    | exn c fs => simp [MP.frz] at e
    | scr ns => simp [MP.frz] at e
    | tup xs =>
      simp only [MP.frz, Option.map_eq_some_iff] at e
      obtain ⟨ys, e, rfl⟩ := e
      simp only [RV] at h ⊢
      obtain ⟨a, vs, rfl, h1, h2⟩ := h
      exact ⟨a, vs, rfl, by rw [s.B, s.H]; exact h1, RVs.frzs ih e h2⟩
    | lst xs =>
      simp only [MP.frz, Option.map_eq_some_iff] at e
      obtain ⟨ys, e, rfl⟩ := e
      simp only [RV] at h ⊢
      obtain ⟨a, vs, rfl, h1, w, h2⟩ := h
      exact ⟨a, vs, rfl, by rw [s.H]; exact h1, fun z => w (s.w a z), RVs.frzs ih e h2⟩
    | ref i =>
      simp only [MP.frz] at e
      split at e
      · rename_i hi
        cases e
        exact RV.sub s (by simp only [MP.refOk]; exact hi) h
      · rename_i hi
        split at e
        · cases e
        · rename_i hx
          simp only [Option.bind_eq_some_iff, Option.map_eq_some_iff] at e
          obtain ⟨xs, ⟨nd, e1, e2⟩, ys, e3, rfl⟩ := e
          cases nd with
          | lst zs =>
            cases e2
            obtain ⟨vs, h1, h2⟩ := R.nod i _ e1
            simp only [RV] at h ⊢
            obtain ⟨hl, rfl⟩ := h
            exact ⟨_, vs, rfl, by rw [s.H]; exact h1, hn i (Nat.le_of_not_lt hi) hl hx, RVs.frzs ih e3 h2⟩
end
theorem take_get {α : Type} {h h0 : List α} (e : h.take h0.length = h0) {i : Nat} {x : α} (q : h0[i]? = some x) : h[i]? = some x := by
  have hi := get_lt q
  rw [← e, List.getElem?_take] at q
  rw [if_pos hi] at q
  exact q
theorem take_len {α : Type} {h h0 : List α} (e : h.take h0.length = h0) : h0.length ≤ h.length := by
  have q := congrArg List.length e
  rw [List.length_take] at q
  omega
/-- a pure end: the nodes that were made are let go -/
theorem pure_end {r r' : RC} (R : Rep r) (e : Ext r r') (R' : Rep r') (ht : r'.ns.take r.ns.length = r.ns) :
    Sub r.ns.length r' { r' with ns := r.ns } ∧ Ext r { r' with ns := r.ns } ∧ Rep { r' with ns := r.ns } ∧ ∀ i, r.ns.length ≤ i → i < r'.ns.length → ¬ RC.W { r' with ns := r.ns } (r'.loc i) := by
  have hw : ∀ a, RC.W { r' with ns := r.ns } a → r'.W a := fun a w => by
    rcases w with ⟨i, xs, q, rfl⟩ | w
    · exact .inl ⟨i, xs, take_get ht q, rfl⟩
    · exact .inr w
  have s : Sub r.ns.length r' { r' with ns := r.ns } := ⟨rfl, rfl, hw, fun _ _ => rfl, Nat.le_refl _⟩
  refine ⟨s, ⟨⟨e.B, e.keep, fun a w => e.own a (hw a w), e.loc, Nat.le_refl _⟩, e.pv, e.prv⟩, ⟨fun i j hi hj => R'.inj i j (Nat.lt_of_lt_of_le hi (take_len ht)) (Nat.lt_of_lt_of_le hj (take_len ht)), fun i nd q => ?_, fun i nd q => R'.sep i nd (take_get ht q), R'.pvs⟩, fun i h1 h2 w => ?_⟩
  · cases nd with
    | lst xs =>
      obtain ⟨vs, h1, h2⟩ := R'.nod i _ (take_get ht q)
      obtain ⟨ws, _, h4⟩ := R.nod i _ q
      exact ⟨vs, h1, RVs.sub s (RVs.refOks h4) h2⟩
  · rcases w with ⟨j, xs, q, z⟩ | w
    · have hj : j < r.ns.length := get_lt q
      have := R'.inj j i (Nat.lt_of_lt_of_le hj (take_len ht)) h2 z
      omega
    · exact R'.sep i _ (List.getElem?_eq_getElem h2) w
def RC.one (r : RC) (h0 : Hs) (i : Nat) (xs : List D) : RC := ⟨r.B, r.H, fun j => if j = h0.length then r.loc i else r.loc j, h0 ++ [.lst xs], r.pv⟩
theorem root_end {r r' : RC} (R : Rep r) (e : Ext r r') (R' : Rep r') (ht : r'.ns.take r.ns.length = r.ns) {i : Nat} {xs ys : List D} (hi : r.ns.length ≤ i) (hx : r'.ns[i]? = some (.lst xs)) (hf : mapO (frz r'.ns r.ns.length i 40) xs = some ys) :
    Ext r (r'.one r.ns i ys) ∧ Rep (r'.one r.ns i ys) ∧ RV (r'.one r.ns i ys) (.ref r.ns.length) (.ref (r'.loc i)) := by
  have il := get_lt hx
  have ll : ∀ j, j < r.ns.length → (r'.one r.ns i ys).loc j = r'.loc j := fun j hj => if_neg (Nat.ne_of_lt hj)
  have lp : (r'.one r.ns i ys).loc r.ns.length = r'.loc i := if_pos rfl
  have tl := take_len ht
  have len : (r'.one r.ns i ys).ns.length = r.ns.length + 1 := by
    show (r.ns ++ [Nd.lst ys]).length = _
    simp
  have hw : ∀ a, (r'.one r.ns i ys).W a → r'.W a := fun a w => by
    rcases w with ⟨j, zs, q, rfl⟩ | w
    · rcases get_app q with ⟨hj, q⟩ | ⟨rfl, _⟩
      · rw [ll j hj]
        exact .inl ⟨j, zs, take_get ht q, rfl⟩
      · rw [lp]
        exact .inl ⟨i, xs, hx, rfl⟩
    · exact .inr w
  have s : Sub r.ns.length r' (r'.one r.ns i ys) := ⟨rfl, rfl, hw, ll, by rw [len]; exact Nat.le_succ _⟩
  have hn : ∀ j, r.ns.length ≤ j → j < r'.ns.length → j ≠ i → ¬ (r'.one r.ns i ys).W (r'.loc j) := fun j h1 h2 h3 w => by
    rcases w with ⟨k, zs, q, z⟩ | w
    · rcases get_app q with ⟨hk, q⟩ | ⟨rfl, _⟩
      · rw [ll k hk] at z
        have := R'.inj k j (Nat.lt_of_lt_of_le hk tl) h2 z
        omega
      · rw [lp] at z
        exact h3 (R'.inj i j il h2 z).symm
    · exact R'.sep j _ (List.getElem?_eq_getElem h2) w
  refine ⟨⟨⟨e.B, e.keep, fun a w => e.own a (hw a w), fun j hj => (ll j hj).trans (e.loc j hj), s.len⟩, e.pv, e.prv⟩, ⟨fun a b ha hb z => ?_, fun j nd q => ?_, fun j nd q w => ?_, R'.pvs⟩, ?_⟩
  · rw [len] at ha hb
    by_cases ea : a = r.ns.length
    · by_cases eb : b = r.ns.length
      · rw [ea, eb]
      · have hb2 : b < r.ns.length := by omega
        rw [ea, lp, ll b hb2] at z
        have := R'.inj i b il (by omega) z
        omega
    · have ha2 : a < r.ns.length := by omega
      by_cases eb : b = r.ns.length
      · rw [eb, lp, ll a ha2] at z
        have := R'.inj a i (by omega) il z
        omega
      · rw [ll a ha2, ll b (by omega)] at z
        exact R'.inj a b (by omega) (by omega) z
  · rcases get_app q with ⟨hj, q⟩ | ⟨rfl, rfl⟩
    · cases nd with
      | lst zs =>
        obtain ⟨vs, h1, h2⟩ := R'.nod j _ (take_get ht q)
        obtain ⟨ws, _, h4⟩ := R.nod j _ q
        exact ⟨vs, by rw [ll j hj]; exact h1, RVs.sub s (RVs.refOks h4) h2⟩
    · obtain ⟨vs, h1, h2⟩ := R'.nod i _ hx
      exact ⟨vs, by rw [lp]; exact h1, RVs.frzs (RV.frz R' s hn 40) hf h2⟩
  · rcases get_app q with ⟨hj, q⟩ | ⟨rfl, rfl⟩
    · rw [ll j hj] at w
      exact R'.sep j _ (take_get ht q) w
    · rw [lp] at w
      exact R'.sep i _ hx w
  · simp only [RV]
    exact ⟨by rw [len]; exact Nat.lt_succ_self _, by rw [lp]⟩
theorem good_exc {ec : EC} {r : RC} {σ : St} {Q : VK} {W : WX} {c : Nat} {fs : List D} {h : Hs} (R : Rep r) (g : GV ec r σ Q W (if h.take r.ns.length = r.ns then (match mapO (frz h r.ns.length h.length 40) fs with
      | some fs => .exc c fs r.ns
      | none => .bad) else .bad)) : GV ec r σ Q W (.exc c fs h) := by
  obtain ⟨ht, g2⟩ := Good.ite g
  clear g
  split at g2
  · rename_i gs hf
    intro r' d n e R' q
    subst n
    obtain ⟨s, e2, R2, hn⟩ := pure_end R e R' ht
    refine g2 { r' with ns := r.ns } d rfl e2 R2 ?_
    rcases q with ⟨rfl, rfl⟩ | ⟨dx, vs, rfl, hne, h1, h2, h3⟩
    · cases hf
      exact .inl ⟨rfl, rfl⟩
    · have hg : gs ≠ [] := fun z => by
        subst z
        cases fs with
        | nil => exact hne rfl
        | cons y ys =>
          obtain ⟨_, _, _, _, e⟩ := mapO_cons hf
          cases e
      exact .inr ⟨dx, vs, rfl, hg, h1, h2, RVs.frzs (RV.frz R' s (fun i h1 h2 _ => hn i h1 h2) 40) hf h3⟩
  · exact False.elim g2
/-- a call's end as the caller sees it -/
theorem good_end {ec : EC} {r : RC} {σ : St} {Q : VK} {W : WX} {md : Md} {x : MP.R D} (R : Rep r) (g : GV ec r σ Q W (endCall md r.ns x)) : GV ec r σ Q W x := by
  cases md with
  | raw => exact g
  | pure =>
    cases x with
    | bad => exact g
    | exc c fs h => exact good_exc R g
    | ok d h =>
      simp only [endCall] at g
      obtain ⟨ht, g2⟩ := Good.ite g
      clear g
      cases hf : frz h r.ns.length h.length 40 d with
      | none => rw [hf] at g2; exact False.elim g2
      | some d' =>
        rw [hf] at g2
        intro r' b n e R' q
        subst n
        obtain ⟨s, e2, R2, hn⟩ := pure_end R e R' ht
        exact g2 { r' with ns := r.ns } b rfl e2 R2 (RV.frz R' s (fun i h1 h2 _ => hn i h1 h2) 40 d d' b hf q)
  | root =>
    cases x with
    | bad => exact g
    | exc c fs h => exact good_exc R g
    | ok d h =>
      cases d with
      | ref i =>
        simp only [endCall] at g
        obtain ⟨ht, g2⟩ := Good.ite g
        clear g
        split at g2
        · rename_i xs hx
          split at g2
          · rename_i ys hf
            intro r' b n e R' q
            subst n
            obtain ⟨e2, R2, q2⟩ := root_end R e R' ht.1 ht.2 hx hf
            simp only [RV] at q
            obtain ⟨_, rfl⟩ := q
            exact g2 (r'.one r.ns i ys) _ rfl e2 R2 q2
          · exact False.elim g2
        · exact False.elim g2
      | _ => exact False.elim g
section
variable {cf : Cf} {G : Gl} {C : Nat → List D → Hs → MP.R D} {ec : EC} {k n : Nat} {B : RB} {N : List Str} {sc : Scope} {X : Cx} {e a b c : Expr} {es : List Expr} {m ma mb mc : E} {ms : List E} {pos p2 p : Pos}
theorem snd_call (g0 : XG cf G C ec k B N sc X) {x : Str} {f : Nat} {md : Md} (hx : glo? sc x = true) (hf : ixOf cf.fns x = some f) (hc : cf.calm = true) (he : starEach (e :: es) X.env = (false, eval e X.env) :: starEach es X.env)
    (hp : (backTo pos (starEach es X.env)).any (·.1) = false) (ha : SndA G C ec B X (e :: es) ms) : SndE G C ec B X (.Call (.Name x p) (e :: es) [] pos) (.call f ms md) := by
  intro W tk σ r sl Q eB R S g
  simp only [evE] at g
  obtain ⟨hd, fa, fd, ps, h1, h2, h3, h4, h5⟩ := g0.wf.fn f x (ixOf_get hf)
  obtain ⟨hcm, hr, hxa⟩ := g0.calm hc
  refine TM.of (pe_callG (E := WE W) h4 g0.gd hr (glo_gl g0 hx) h1 h2 h3 (passAt tk) pa_am hd he hp) (ha tk eB R S (g.step fun xs h1 r1 vs _ n1 e1 R1 q1 g1 => ?_))
  subst n1
  have g2 := good_end R1 g1
  refine ⟨r1, xs, by rw [e1.B, eB, g0.eK], by rw [e1.B, eB], by rw [e1.B, eB]; exact hxa, rfl, R1, q1, ?_, g2.conv fun c d H h => h⟩
  rw [← q1.length]
  exact h5 xs r1.ns fun z => by rw [z] at g2; exact g2
end
end L2.MP
/-! MpE4: built-in functions, isinstance, methods. -/
namespace L2.MP
open PySem PySem.Spec PyProof.Rows
section
variable {cf : Cf} {G : Gl} {C : Nat → List D → Hs → MP.R D} {ec : EC} {k n : Nat} {B : RB} {N : List Str} {sc : Scope} {X : Cx} {e a b c : Expr} {es : List Expr} {m ma mb mc : E} {ms : List E} {pos p2 p : Pos}
def biV : BI → Value
  | .len => .builtin "len" | .repr => .builtin "repr" | .str => .type "str" | .int => .type "int" | .tuple => .type "tuple" | .list => .type "list"
  | .all => .builtin "all" | .any => .builtin "any" | .sum => .builtin "sum" | .max => .builtin "max" | .min => .builtin "min" | .sorted => .builtin "sorted"
theorem tupV_inv {r : RC} (R : Rep r) {x : D} {xs : List D} {v : V} (h : seqV r.ns x = some xs) (q : RV r x v) : ∃ a vs, v = .ref a ∧ RVs r xs vs ∧ ((SqL r.B.K r.H a vs) ∨ (x = .tup xs ∧ SqT r.B.K r.H a vs)) := by
  cases x with
  | tup ys =>
    cases h
    obtain ⟨a, vs, rfl, h1, h2⟩ := tup_inv q
    exact ⟨a, vs, rfl, h2, .inr ⟨rfl, h1⟩⟩
  | lst ys =>
    obtain ⟨a, vs, rfl, h1, h2⟩ := lstV_inv (d := .lst ys) R h q
    exact ⟨a, vs, rfl, h2, .inl (SqL.of h1)⟩
  | ref i =>
    obtain ⟨a, vs, rfl, h1, h2⟩ := lstV_inv (d := .ref i) R h q
    exact ⟨a, vs, rfl, h2, .inl (SqL.of h1)⟩
  | _ => cases h
theorem bi_ok (ok : XOk B k X) (hgd : X.A.guards = some []) (hsys : ∃ o, X.K.lookup sysModules = some o ∧ o.cls = .type "dict") {bi : BI} (hc0 : biCalm bi = true ∨ X.calm = true) {r : RC} {σ σ' : St} {Q : VK} {W : WX} (eB : r.B = B) (R : Rep r) {nd : Bool} {xs : List D} {vs : List V} (hs : bi ≠ .sorted) (h : RVs r xs vs) (g : GV ec r σ Q W (biD bi nd xs r.ns)) : CM X (biV bi) σ' vs r.H Q := by
  have eK : X.K = r.B.K := by rw [ok.K, eB]
  replace g := g.conv (W' := fun c d _ H => W c d σ H) (σ' := σ') (fun _ _ _ h => h)
  cases bi with
  | repr => exact repr_cm R eK hgd ok.room hsys h g
  | str => exact str_cm R h g
  | int => exact int_cm R h g
  | sorted => exact absurd rfl hs
  | len =>
    match xs with
    | [x] =>
      obtain ⟨v, rfl, hv⟩ := RVs.single h
      exact len_ok ok eB R hv g
    | [] => exact False.elim g
    | _ :: _ :: _ => exact False.elim g
  | tuple =>
    match xs with
    | [x] =>
      obtain ⟨v, rfl, hv⟩ := RVs.single h
      simp only [biD] at g
      obtain ⟨ys, hx, g⟩ := Good.of g
      obtain ⟨a, ws, rfl, q, p⟩ := tupV_inv R hx hv
      refine CM.of call_tuple_of ⟨a, ws, rfl, ?_⟩
      rcases p with p | ⟨rfl, p⟩
      · refine .inl ⟨eK ▸ p, fun l hl => ?_⟩
        obtain ⟨e, R', q'⟩ := new_tup R hl q
        exact g { r with H := upd r.H l (.tup ws) } (.ref l) rfl e R' q'
      · exact .inr ⟨eK ▸ p, done R g hv⟩
    | [] => exact False.elim g
    | _ :: _ :: _ => exact False.elim g
  | list =>
    match xs with
    | [x] =>
      obtain ⟨v, rfl, hv⟩ := RVs.single h
      simp only [biD] at g
      obtain ⟨ys, hx, g⟩ := Good.of g
      obtain ⟨a, ws, rfl, p, q⟩ := seqV_inv R hx hv
      exact CM.of call_list_of ⟨a, ws, rfl, by rw [eK]; exact p, fun l hl => mk_lstOf R q g hl⟩
    | [] => exact False.elim g
    | _ :: _ :: _ => exact False.elim g
  | all =>
    have hc : X.calm = true := hc0.elim (fun z => by cases z) id
    match xs with
    | [x] =>
      obtain ⟨v, rfl, hv⟩ := RVs.single h
      simp only [biD] at g
      obtain ⟨bs, hx, g⟩ := Good.of g
      obtain ⟨ys, hy, hb⟩ := Option.bind_eq_some_iff.mp hx
      obtain ⟨a, ws, rfl, p, q⟩ := lstV_inv R hy hv
      rw [bools_inv q hb] at p
      exact CM.of (cr_all hc) ⟨a, bs, rfl, SqL.of p, done R g (mk_bl _)⟩
    | [] => exact False.elim g
    | _ :: _ :: _ => exact False.elim g
  | any =>
    have hc : X.calm = true := hc0.elim (fun z => by cases z) id
    match xs with
    | [x] =>
      obtain ⟨v, rfl, hv⟩ := RVs.single h
      simp only [biD] at g
      obtain ⟨bs, hx, g⟩ := Good.of g
      obtain ⟨ys, hy, hb⟩ := Option.bind_eq_some_iff.mp hx
      obtain ⟨a, ws, rfl, p, q⟩ := lstV_inv R hy hv
      rw [bools_inv q hb] at p
      exact CM.of (cr_any hc) ⟨a, bs, rfl, SqL.of p, done R g (mk_bl _)⟩
    | [] => exact False.elim g
    | _ :: _ :: _ => exact False.elim g
  | sum =>
    have hc : X.calm = true := hc0.elim (fun z => by cases z) id
    match xs with
    | [x] =>
      obtain ⟨v, rfl, hv⟩ := RVs.single h
      simp only [biD] at g
      obtain ⟨bs, hx, g⟩ := Good.of g
      obtain ⟨ys, hy, hb⟩ := Option.bind_eq_some_iff.mp hx
      obtain ⟨a, ws, rfl, p, q⟩ := lstV_inv R hy hv
      rw [ints_inv q hb] at p
      exact CM.of (cr_sum hc) ⟨a, bs, rfl, SqL.of p, done R g (mk_int _)⟩
    | [] => exact False.elim g
    | _ :: _ :: _ => exact False.elim g
  | max =>
    have hc : X.calm = true := hc0.elim (fun z => by cases z) id
    have hx : ∃ i j, xs = [.int i, .int j] := by
      clear h
      rcases xs with _ | ⟨x, _ | ⟨y, _ | ⟨z, zs⟩⟩⟩
      · exact False.elim g
      · cases x <;> exact False.elim g
      · cases x <;> cases y <;> first | exact False.elim g | exact ⟨_, _, rfl⟩
      · cases x <;> cases y <;> exact False.elim g
    obtain ⟨i, j, rfl⟩ := hx
    obtain ⟨v, w, rfl, h1, h2⟩ := RVs.two h
    rw [rv_int h1, rv_int h2]
    exact CM.of (call_max2 hc) ⟨i, j, rfl, done R g (mk_int _)⟩
  | min =>
    have hc : X.calm = true := hc0.elim (fun z => by cases z) id
    have hx : ∃ i j, xs = [.int i, .int j] := by
      clear h
      rcases xs with _ | ⟨x, _ | ⟨y, _ | ⟨z, zs⟩⟩⟩
      · exact False.elim g
      · cases x <;> exact False.elim g
      · cases x <;> cases y <;> first | exact False.elim g | exact ⟨_, _, rfl⟩
      · cases x <;> cases y <;> exact False.elim g
    obtain ⟨i, j, rfl⟩ := hx
    obtain ⟨v, w, rfl, h1, h2⟩ := RVs.two h
    rw [rv_int h1, rv_int h2]
    exact CM.of (call_min2 hc) ⟨i, j, rfl, done R g (mk_int _)⟩
theorem bi_boot {x : Str} {bi : BI} (h : bi? x = some bi) : bootBuiltins x = some (biV bi) ∧ x ≠ "__name__" ∧ (x == ("__debug__" : Str)) = false ∧ biN x = true ∧ bi ≠ .sorted := by
  unfold bi? at h
  repeat' split at h
  all_goals first | cases h | skip
  all_goals subst_vars
  all_goals exact ⟨by decide +kernel, by decide, by decide, by decide +kernel, by decide⟩
theorem snd_bi (g0 : XG cf G C ec k B N sc X) {x : Str} {bi : BI} {nd : Bool} (hx : glo? sc x = true) (hf : ixOf cf.fns x = none) (hf2 : ixOf cf.exs x = none) (hb : bi? x = some bi) (hc : (cf.calm || biCalm bi) = true) (he : starEach (e :: es) X.env = (false, eval e X.env) :: starEach es X.env)
    (hp : (backTo pos (starEach es X.env)).any (·.1) = false) (ha : SndA G C ec B X (e :: es) ms) : SndE G C ec B X (.Call (.Name x p) (e :: es) [] pos) (.bi bi ms nd) := by
  intro W tk σ r sl Q eB R S g
  simp only [evE] at g
  obtain ⟨h1, h2, h3, h4, h5⟩ := bi_boot hb
  have hm := g0.wf.bi x h4 hf hf2
  have hcm : biCalm bi = true ∨ X.calm = true := by
    rcases Bool.or_eq_true_iff.mp hc with hc | hc
    · exact .inr (g0.calm hc).1
    · exact .inl hc
  have key : AM X (e :: es) σ r.H fun vs H1 => ∀ σ', CM X (biV bi) σ' vs H1 Q := ha tk eB R S (g.step fun xs h1 r1 vs _ n1 e1 R1 q1 g1 => by
    subst n1
    exact fun σ' => bi_ok g0.ok g0.gd g0.wf.sys hcm (e1.B.trans eB) R1 h5 q1 g1)
  have cr : CallR X (biV bi) (fun xs H Q => ∀ σ, CM X (biV bi) σ xs H Q) := fun pins s σ H xs us Q I rv h => h σ pins s us I rv
  cases bi with
  | len => exact TM.of (pe_callB (id := "len") cr (glo_gl g0 hx) hm h1 pa_am h2 h3 he hp) key
  | tuple => exact TM.of (pe_callTy (T := "tuple") cr (glo_gl g0 hx) hm h1 pa_am h2 h3 he hp) key
  | list => exact TM.of (pe_callTy (T := "list") cr (glo_gl g0 hx) hm h1 pa_am h2 h3 he hp) key
  | all => exact TM.of (pe_callB (id := "all") cr (glo_gl g0 hx) hm h1 pa_am h2 h3 he hp) key
  | any => exact TM.of (pe_callB (id := "any") cr (glo_gl g0 hx) hm h1 pa_am h2 h3 he hp) key
  | sum => exact TM.of (pe_callB (id := "sum") cr (glo_gl g0 hx) hm h1 pa_am h2 h3 he hp) key
  | max => exact TM.of (pe_callB (id := "max") cr (glo_gl g0 hx) hm h1 pa_am h2 h3 he hp) key
  | min => exact TM.of (pe_callB (id := "min") cr (glo_gl g0 hx) hm h1 pa_am h2 h3 he hp) key
  | repr => exact TM.of (pe_callB (id := "repr") cr (glo_gl g0 hx) hm h1 pa_am h2 h3 he hp) key
  | str => exact TM.of (pe_callTy (T := "str") cr (glo_gl g0 hx) hm h1 pa_am h2 h3 he hp) key
  | int => exact TM.of (pe_callTy (T := "int") cr (glo_gl g0 hx) hm h1 pa_am h2 h3 he hp) key
  | sorted => exact absurd rfl h5
end
end L2.MP
/-! MpE5: isinstance, methods. -/
namespace L2.MP
open PySem PySem.Spec PyProof.Rows
section
variable {cf : Cf} {G : Gl} {C : Nat → List D → Hs → MP.R D} {ec : EC} {k n : Nat} {B : RB} {N : List Str} {sc : Scope} {X : Cx} {e a b c : Expr} {es : List Expr} {m ma mb mc mo : E} {ms : List E} {pos p2 p : Pos}
def tyVal (ec : EC) : Ty → Value
  | .int => .type "int" | .bool => .type "bool" | .str => .type "str" | .tuple => .type "tuple" | .list => .type "list" | .dict => .type "dict"
  | .own c => ec c | .err n => .type n
/-- classes that the translator lets through -/
def tyOk (cf : Cf) : Ty → Prop
  | .own c => ∃ x, cf.exs[c]? = some x
  | .err n => n = "ValueError" ∨ n = "KeyError" ∨ n = "OverflowError"
  | _ => True
theorem kit_D (g0 : XG cf G C ec k B N sc X) {r : RC} {σ : St} {pins : List (Addr × Obj)} {s : Shared} (eB : r.B = B) (R : Rep r) {x : D} {v : V} {u : Value} (h : RV r x v) (rv : RelV v u) (I : Inv X pins σ r.H s) {t0 : Ty} {b0 : Bool} (ht : isTy G r.ns x t0 = some b0) :
    ∃ (P : Heap → Prop) (t' : Value), PySem.W.KitX X.K u t' P ∧ P s.heap ∧ u ≠ .builtin "__main__.__loader__#opaque" ∧ ∀ t b, tyOk cf t → isTy G r.ns x t = some b → PySem.W.kitOne X.K t' (tyVal ec t) = some b := by
  have eK : X.K = r.B.K := by rw [g0.eK, eB]
  cases x with
  | non =>
    rw [rv_non h] at rv
    obtain ⟨P, Z, p, hx⟩ := kit_of I rv (.base .non)
    refine ⟨P, _, Z, p, hx, fun t b _ e => ?_⟩
    cases t <;> simp only [isTy, Option.some.injEq] at e <;> first | cases e | skip
    all_goals exact kit_ty (by decide +kernel)
  | bl y =>
    rw [rv_bl h] at rv
    obtain ⟨P, Z, p, hx⟩ := kit_of I rv (.base (.bl _))
    refine ⟨P, _, Z, p, hx, fun t b _ e => ?_⟩
    cases t <;> simp only [isTy, Option.some.injEq] at e <;> first | cases e | skip
    all_goals exact kit_ty (by decide +kernel)
  | int y =>
    rw [rv_int h] at rv
    obtain ⟨P, Z, p, hx⟩ := kit_of I rv (.base (.int _))
    refine ⟨P, _, Z, p, hx, fun t b _ e => ?_⟩
    cases t <;> simp only [isTy, Option.some.injEq] at e <;> first | cases e | skip
    all_goals exact kit_ty (by decide +kernel)
  | str y =>
    rw [(rv_str h).1] at rv
    obtain ⟨P, Z, p, hx⟩ := kit_of I rv (.base (.str _))
    refine ⟨P, _, Z, p, hx, fun t b _ e => ?_⟩
    cases t <;> simp only [isTy, Option.some.injEq] at e <;> first | cases e | skip
    all_goals exact kit_ty (by decide +kernel)
  | tup xs =>
    obtain ⟨ad, vs, rfl, h1, _⟩ := tup_inv h
    have ty : TyX X.K r.H (.ref ad) (.type "tuple") := by
      rcases h1 with (h1 | ⟨o, h1⟩) | ⟨o, _, _, h1, h2, _⟩
      · exact .base (.tup h1)
      · exact .fTuple h1
      · exact .kTuple (by rw [eK]; exact h1) h2
    obtain ⟨P, Z, p, hx⟩ := kit_of I rv ty
    refine ⟨P, _, Z, p, hx, fun t b _ e => ?_⟩
    cases t <;> simp only [isTy, Option.some.injEq] at e <;> first | cases e | skip
    all_goals exact kit_ty (by decide +kernel)
  | lst xs =>
    obtain ⟨ad, vs, rfl, h1, _⟩ := lstV_inv (d := .lst xs) R rfl h
    obtain ⟨P, Z, p, hx⟩ := kit_of I rv (.base (.lst h1))
    refine ⟨P, _, Z, p, hx, fun t b _ e => ?_⟩
    cases t <;> simp only [isTy, Option.some.injEq] at e <;> first | cases e | skip
    all_goals exact kit_ty (by decide +kernel)
  | ref i =>
    have hl := h
    simp only [RV] at hl
    obtain ⟨hi, rfl⟩ := hl
    obtain ⟨nd, hnd⟩ : ∃ nd, r.ns[i]? = some nd := ⟨_, List.getElem?_eq_getElem hi⟩
    cases nd with
    | lst ys =>
      obtain ⟨vs, h1, _⟩ := R.nod i _ hnd
      obtain ⟨P, Z, p, hx⟩ := kit_of I rv (.base (.lst h1))
      refine ⟨P, _, Z, p, hx, fun t b _ e => ?_⟩
      cases t <;> simp only [isTy, hnd, Option.bind_some, seqN, Option.map_some, Option.some.injEq] at e <;> first | cases e | skip
      all_goals exact kit_ty (by decide +kernel)
  | dic ks vs =>
    simp only [RV] at h
    obtain ⟨ad, rfl, h1, _⟩ := h
    obtain ⟨P, Z, p, hx⟩ := kit_of I rv (.base (.dK h1))
    refine ⟨P, _, Z, p, hx, fun t b _ e => ?_⟩
    cases t <;> simp only [isTy, Option.some.injEq] at e <;> first | cases e | skip
    all_goals exact kit_ty (by decide +kernel)
  | scr ns => cases t0 <;> simp [isTy] at ht
  | exn c fs =>
    have hty : ∀ t b, isTy G r.ns (.exn c fs) t = some b → (∃ c', t = .own c' ∧ b = (c == c')) ∨ ∃ nm q, t = .err nm ∧ G.exb[c]? = some q ∧ b = (q == nm) := fun t b e => by
      cases t <;> simp only [isTy] at e <;> first | (cases e; done) | skip
      · exact .inl ⟨_, rfl, (Option.some.inj e).symm⟩
      · obtain ⟨q, hq, rfl⟩ := Option.map_eq_some_iff.mp e
        exact .inr ⟨_, q, rfl, hq, rfl⟩
    simp only [RV] at h
    obtain ⟨ad, d, rfl, h1, h2⟩ := h
    obtain ⟨oe, vs, hm, hv, hz, x, hx⟩ := g0.xa ad c d (by rw [← eB]; exact h1)
    obtain rfl : u = Value.ref ad := rv
    obtain ⟨hget, _⟩ := I.pin (ad, oe) (List.mem_append.mpr (.inl hm))
    obtain ⟨_, Ca, _, eC⟩ := g0.wf.exc c x hx
    obtain ⟨k1, k2, k3⟩ := g0.wf.exk c x hx
    have EC := k1 Ca eC
    rw [eC] at hz
    have hcl : (PySem.W.clsIn X.K Ca).isSome = true := by
      obtain ⟨cdD, hcD, _⟩ := PySem.W.any_some EC.hd
      rw [hcD]
      rfl
    have J : ∃ od, PySem.W.InstAt s.heap ad oe Ca od := by
      rcases h2 with ⟨rfl, _⟩ | ⟨dx, ws, rfl, _, h3, _, _⟩
      · refine ⟨none, ?_⟩
        obtain ⟨oc, od, oda, osl⟩ := oe
        obtain ⟨h1, h2⟩ := hz
        dsimp only at h1 h2 hv
        subst h1 h2 hv
        exact ⟨hget, rfl, rfl, trivial⟩
      · have hxo : ObjOk X.prog X.w r.H s.heap dx (.xd ((r.B.fl c).zip ws).reverse) := I.hok dx _ h3
        obtain ⟨mA, hns, _⟩ := hxo
        obtain ⟨od, ho, _⟩ := lookIn_ns hns
        exact ⟨some od, hget, hz.1, by unfold PySem.W.notCls; rw [hv] <;> rfl, by rw [hz.2]; exact ho⟩
    obtain ⟨od, J⟩ := J
    refine ⟨_, _, PySem.W.kitx_exc hcl EC.hg EC.hk EC.hs EC.ha EC.hn EC.ht EC.hm, J, (fun z => nomatch z), fun t b tk e => ?_⟩
    rw [← eC]
    rcases hty t b e with ⟨c', rfl, rfl⟩ | ⟨nm, q, rfl, hq, rfl⟩
    · obtain ⟨x', hx'⟩ := tk
      exact k2 c' x' hx'
    · exact k3 nm q tk hq
theorem kitAny_of {K : PySem.W.Frag} {t' : Value} {r : RC} {x : D} (hk : ∀ t b, tyOk cf t → isTy G r.ns x t = some b → PySem.W.kitOne K t' (tyVal ec t) = some b) : ∀ {ts : List Ty} {b : Bool}, (∀ t ∈ ts, tyOk cf t) → isTys G r.ns x ts = some b → PySem.W.kitAny K t' (ts.map (tyVal ec)) = some b
  | [], b, _, e => by
    simp only [isTys, Option.some.injEq] at e
    subst e
    exact kitAny_nil
  | t :: ts, b, ho, e => by
    simp only [isTys] at e
    obtain ⟨b1, e1, e2⟩ := of_bind e
    refine kitAny_cons (hk t b1 (ho t List.mem_cons_self) e1) (fun z => ?_) (fun z => ?_)
    · subst z
      exact kitAny_of hk (fun t h => ho t (List.mem_cons_of_mem _ h)) e2
    · subst z
      cases e2; rfl
theorem isi_one (g0 : XG cf G C ec k B N sc X) {r : RC} {σ : St} {Q : VK} (eB : r.B = B) (R : Rep r) {x : D} {v cv : V} {t : Ty} {b : Bool} (h : RV r x v) (hc : ClsV cv (tyVal ec t)) (ho : tyOk cf t) (e : isTys G r.ns x [t] = some b) (q : Q (.bl b) r.H) : CM X (.builtin "isinstance") σ [v, cv] r.H Q := by
  intro pins s us I rv
  obtain ⟨u1, u2, rfl, r1, r2⟩ := vals2 rv
  have e2 := hc.eq r2
  subst e2
  have e1 : isTy G r.ns x t = some b := by
    simp only [isTys] at e
    obtain ⟨b1, e1, e2⟩ := of_bind e
    rw [e1]
    cases b1 <;> exact e2
  obtain ⟨P, t', Z, p, hx, hk⟩ := kit_D g0 eB R h r1 I e1
  exact PySem.W.kia_one Z I.kIn p (hk t b ho e1) hx fun tk => ⟨.bl b, r.H, I.tok tk, rfl, q⟩
theorem isi_tup (g0 : XG cf G C ec k B N sc X) {r : RC} {σ : St} {Q : VK} (eB : r.B = B) (R : Rep r) {x : D} {v : V} {tp : Addr} {cs : List V} {t0 : Ty} {ts : List Ty} {b : Bool} (h : RV r x v) (hT : r.H tp = some (.tup cs)) (hc : Paired ClsV cs ((t0 :: ts).map (tyVal ec))) (ho : ∀ t ∈ t0 :: ts, tyOk cf t) (e : isTys G r.ns x (t0 :: ts) = some b) (q : Q (.bl b) r.H) : CM X (.builtin "isinstance") σ [v, .ref tp] r.H Q := by
  intro pins s us I rv
  obtain ⟨u1, u2, rfl, r1, r2⟩ := vals2 rv
  obtain rfl : u2 = Value.ref tp := r2
  obtain ⟨b1, e1, _⟩ := of_bind (show (isTy G r.ns x t0).bind _ = some b from e)
  obtain ⟨P, t', Z, p, hx, hk⟩ := kit_D g0 eB R h r1 I e1
  obtain ⟨_, its, rv2, o, h1, h2, n, h3⟩ := (show ObjOk X.prog X.w r.H s.heap tp (.tup cs) from I.hok tp _ hT)
  have e3 := ClsV.all hc rv2
  subst e3
  obtain ⟨oc, od, dt, sl⟩ := o
  simp only at h2 h3
  subst h2 h3
  exact PySem.W.kia_tup Z I.kIn p h1 (kitAny_of hk ho e) hx fun tk => ⟨.bl b, r.H, I.tok tk, rfl, q⟩
theorem cls_tm (g0 : XG cf G C ec k B N sc X) {x : Str} {t : Ty} (hf : ixOf cf.fns x = none) (h : ty? cf sc x = some t) : tyOk cf t ∧ ∃ v, PE X (.Name x p) (tC v) ∧ ClsV v (tyVal ec t) := by
  unfold ty? at h
  split at h
  · rename_i hg
    have gl := glo_gl g0 hg
    split at h
    · rename_i c hc
      cases h
      obtain ⟨hd, a, h1, h2⟩ := g0.wf.exc c x (ixOf_get hc)
      refine ⟨⟨x, ixOf_get hc⟩, .ref a, pe_glob gl h1 rfl hd, ?_⟩
      show ClsV _ (ec c)
      rw [h2]
      exact .own a
    · rename_i hx
      repeat' split at h
      all_goals first | cases h | skip
      all_goals subst_vars
      all_goals refine ⟨by first | exact True.intro | exact .inl rfl | exact .inr (.inl rfl) | exact .inr (.inr rfl), .ty _, pe_bltn gl (g0.wf.bi _ (by decide +kernel) hf hx) (by decide +kernel) rfl, .ty _⟩
  · cases h
end
end L2.MP
namespace L2.MP
open PySem PySem.Spec PyProof.Rows
section
variable {cf : Cf} {G : Gl} {C : Nat → List D → Hs → MP.R D} {ec : EC} {k n : Nat} {B : RB} {N : List Str} {sc : Scope} {X : Cx} {e a b c : Expr} {es : List Expr} {m ma mb mc mo : E} {ms : List E} {pos p2 p p3 : Pos}
theorem isi_cr : CallR X (.builtin "isinstance") (fun xs H Q => ∀ σ, CM X (.builtin "isinstance") σ xs H Q) := fun pins s σ H xs us Q I rv h => h σ pins s us I rv
theorem isi_hm (g0 : XG cf G C ec k B N sc X) (hf : ixOf cf.fns "isinstance" = none) (hx : ixOf cf.exs "isinstance" = none) : X.mg "isinstance" = none := g0.wf.bi _ (by decide +kernel) hf hx
theorem snd_isi1 (g0 : XG cf G C ec k B N sc X) {x : Str} {t : Ty} (hg : glo? sc "isinstance" = true) (hf : ixOf cf.fns "isinstance" = none) (hxx : ixOf cf.exs "isinstance" = none) (hfx : ixOf cf.fns x = none) (ht : ty? cf sc x = some t)
    (he : starEach (a :: [Expr.Name x p2]) X.env = (false, eval a X.env) :: starEach [Expr.Name x p2] X.env) (ha : SndE G C ec B X a ma) : SndE G C ec B X (.Call (.Name "isinstance" p) [a, .Name x p2] [] pos) (.isi ma [t]) := by
  intro W tk σ r sl Q eB R S g
  simp only [evE] at g
  obtain ⟨ho, cv, h1, h2⟩ := cls_tm g0 (p := p2) hfx ht
  refine TM.of (pe_callB isi_cr (glo_gl g0 hg) (isi_hm g0 hf hxx) (by decide +kernel) (pa_cons pe_tm (pa_cons h1 pa_nil (by rfl)) he) (by decide) (by decide) he (by rfl)) (ha tk eB R S (g.step fun y h1 r1 v1 _ n1 e1 R1 q1 g1 => ?_))
  subst n1
  obtain ⟨b, hb, g1⟩ := Good.of g1
  intro σ'
  exact isi_one g0 (e1.B.trans eB) R1 q1 h2 ho hb (g1.okI R1 (mk_bl _))
theorem cls_tms (g0 : XG cf G C ec k B N sc X) : ∀ {es : List Expr} {ts : List Ty}, (∀ x q, Expr.Name x q ∈ es → ixOf cf.fns x = none) → tys? cf sc es = some ts → (∀ t ∈ ts, tyOk cf t) ∧ ∃ (vs : List V) (tt : TA), PA X es tt ∧ Paired ClsV vs (ts.map (tyVal ec)) ∧ (∀ σ H Q, Q vs H → tt σ H Q) ∧ vs.length = es.length
  | [], ts, _, h => by
    simp only [tys?, Option.some.injEq] at h
    subst h
    exact ⟨(fun t ht => nomatch ht), [], tNil, pa_nil, .nil, fun _ _ _ q => q, rfl⟩
  | .Name x q :: es, ts, hn, h => by
    simp only [tys?] at h
    obtain ⟨t, h1, h⟩ := of_bind h
    obtain ⟨ts', h2, h⟩ := of_bind h
    cases h
    obtain ⟨ho, v, c1, c2⟩ := cls_tm g0 (p := q) (hn x q List.mem_cons_self) h1
    obtain ⟨hos, vs, tt, p1, p2, p3, p4⟩ := cls_tms g0 (fun x q hm => hn x q (List.mem_cons_of_mem _ hm)) h2
    refine ⟨fun t ht => ?_, v :: vs, _, pa_cons c1 p1 (by rfl), .cons c2 p2, fun σ H Q q => p3 σ H _ q, by simp [p4]⟩
    rcases List.mem_cons.mp ht with rfl | ht
    · exact ho
    · exact hos t ht
theorem snd_isiT (g0 : XG cf G C ec k B N sc X) {cs : List Expr} {t0 : Ty} {ts : List Ty} {k1 : Nat} (hl : cs.length ≤ 1000) (hg : glo? sc "isinstance" = true) (hf : ixOf cf.fns "isinstance" = none) (hxx : ixOf cf.exs "isinstance" = none) (hfx : ∀ x q, Expr.Name x q ∈ cs → ixOf cf.fns x = none) (ht : tys? cf sc cs = some (t0 :: ts))
    (he : starEach (a :: [Expr.Tuple cs k1 p2]) X.env = (false, eval a X.env) :: starEach [Expr.Tuple cs k1 p2] X.env) (ha : SndE G C ec B X a ma) : SndE G C ec B X (.Call (.Name "isinstance" p) [a, .Tuple cs k1 p2] [] pos) (.isi ma (t0 :: ts)) := by
  intro W tk σ r sl Q eB R S g
  simp only [evE] at g
  obtain ⟨ho, vs, tt, h1, h2, h3, h4⟩ := cls_tms g0 hfx ht
  refine TM.of (pe_callB isi_cr (glo_gl g0 hg) (isi_hm g0 hf hxx) (by decide +kernel) (pa_cons pe_tm (pa_cons (pe_tup h1) pa_nil (by rfl)) he) (by decide) (by decide) he (by rfl)) (ha tk eB R S (g.step fun y h1 r1 v1 _ n1 e1 R1 q1 g1 => ?_))
  subst n1
  obtain ⟨b, hb, g1⟩ := Good.of g1
  refine h3 _ _ _ ⟨by rw [h4]; exact Nat.le_trans hl (by decide), fun tp hp σ' => ?_⟩
  obtain ⟨e, R'⟩ := R1.alloc (o := .tup vs) hp
  exact isi_tup (r := { r1 with H := upd r1.H tp (.tup vs) }) g0 (e1.B.trans eB) R' (RV.ext R1 e q1) upd_same h2 ho hb (g1 { r1 with H := upd r1.H tp (.tup vs) } (.bl b) rfl e R' (mk_bl _))

/-! ### methods -/
theorem snd_mt_of {T id : String} {name : Str} {mm : MT} {q : V → List V → Hp → VK → Prop} (pa : PlainAttrs T) (slot : Slot T name id) (hty : typeOf (.builtin id) = pure (.type "method_descriptor")) (hm : MtR X id q)
    (h1 : ∀ (r : RC) (x : D) (v : V), r.B = B → Rep r → RV r x v → mtTy mm x = true → tyV X.K T v r.H)
    (h2 : ∀ (r : RC) (x : D) (v : V) (xs : List D) (vs : List V) (σ : St) (Q : VK) (W : WX), r.B = B → Rep r → RV r x v → RVs r xs vs → mtTy mm x = true → GV ec r σ Q W (mtD mm x xs r.ns) → q v vs r.H Q)
    (hb : attributeBase a name X.env (eval a X.env) = eval a X.env) (hf : ((((List.all (backTo pos (starEach (e :: es) X.env)) fun x => !Prod.fst x) && List.all (backToKw pos (keywordEach [] X.env)) fun x => Option.isSome (Prod.fst x)) &&
      decide ((List.length (e :: es) + List.length ([] : List Keyword) + if List.isEmpty ([] : List Keyword) = true then 0 else 1) < 30)) = true)) (hl : (Pos.endLine p == Pos.line pos) = true)
    (he : starEach (e :: es) X.env = (false, eval e X.env) :: starEach es X.env) (hp : (backTo pos (starEach es X.env)).any (·.1) = false) (ha : SndE G C ec B X a ma) (hs : SndA G C ec B X (e :: es) ms) :
    SndE G C ec B X (.Call (.Attribute a name p) (e :: es) [] pos) (.mt mm ma ms) := by
  intro W tk σ r sl Q eB R S g
  simp only [evE] at g
  refine TM.of (pe_bm pa slot hty hm pe_tm pa_am hb hf hl he hp) (ha tk eB R S (g.step fun x h1' r1 v1 _ n1 e1 R1 q1 g1 => ?_))
  subst n1
  obtain ⟨ht, g1⟩ := Good.ite g1
  refine ⟨h1 r1 x v1 (e1.B.trans eB) R1 q1 ht, hs tk (e1.B.trans eB) R1 (S.ext R e1) (g1.step fun xs h2' r2 vs _ n2 e2 R2 q2 g2 => ?_)⟩
  subst n2
  exact h2 r2 x v1 xs vs σ Q W (e2.B.trans (e1.B.trans eB)) R2 (RV.ext R1 e2 q1) q2 ht g2
theorem str_ty {r : RC} {x : D} {v : V} (h : RV r x v) {s : List Nat} (e : x = .str s) {K : PySem.W.Frag} : tyV K "str" v r.H := by
  subst e
  rw [(rv_str h).1]
  rfl
theorem part_run {r : RC} {x : D} {v : V} {xs : List D} {vs : List V} {σ : St} {Q : VK} {W : WX} (R : Rep r) (h : RV r x v) (hs : RVs r xs vs) (g : GV ec r σ Q W (mtD .partition x xs r.ns)) :
    ∃ a b, v = .str a ∧ vs = [.str b] ∧ (b.length == 0) = false ∧ a.length ≤ sizeLine ∧ ∀ p, r.H p = none → Q (.ref p) (upd r.H p (.tup [.str (Txt.partition a b).1, .str (Txt.partition a b).2.1, .str (Txt.partition a b).2.2])) := by
  have hx : ∃ s c, x = .str s ∧ xs = [.str [c]] := by
    clear h hs
    cases x <;> first | exact False.elim g | skip
    rcases xs with _ | ⟨y, _ | ⟨z, zs⟩⟩ <;> first | exact False.elim g | skip
    · cases y <;> first | exact False.elim g | skip
      rename_i t
      rcases t with _ | ⟨c, _ | ⟨d, t⟩⟩ <;> first | exact False.elim g | skip
      exact ⟨_, _, rfl, rfl⟩
    · cases y <;> first | exact False.elim g | skip
      rename_i t
      rcases t with _ | ⟨c, _ | ⟨d, t⟩⟩ <;> exact False.elim g
  obtain ⟨s, c, rfl, rfl⟩ := hx
  obtain ⟨w, rfl, hw⟩ := RVs.single hs
  obtain ⟨rfl, o1⟩ := rv_str h
  obtain ⟨rfl, o2⟩ := rv_str hw
  simp only [mtD] at g
  obtain ⟨hz, g⟩ := Good.ite g
  refine ⟨_, _, rfl, rfl, rfl, by rw [len_str]; exact le_line hz, fun p hp => ?_⟩
  have e := part_eq c s []
  cases hps : partS c s with
  | none =>
    rw [hps] at g e
    have ep : Txt.partition (SX.S s) (SX.S [c]) = (SX.S s, SX.S [], SX.S []) := SX.partition_none (by simp) (by simpa using e)
    show Q (.ref p) (upd r.H p (.tup [.str (Txt.partition (SX.S s) (SX.S [c])).1, .str (Txt.partition (SX.S s) (SX.S [c])).2.1, .str (Txt.partition (SX.S s) (SX.S [c])).2.2]))
    rw [ep]
    obtain ⟨e', R', q'⟩ := new_tup R hp (RVs.cons (mk_str o1) (RVs.cons (mk_str (s := []) fun _ z => nomatch z) (RVs.cons (mk_str (s := []) fun _ z => nomatch z) RVs.nil)))
    exact g { r with H := upd r.H p (.tup _) } (.ref p) rfl e' R' q'
  | some ab =>
    obtain ⟨a1, b1⟩ := ab
    rw [hps] at g e
    have ep : Txt.partition (SX.S s) (SX.S [c]) = (SX.S a1, SX.S [c], SX.S b1) := SX.partition_some (by simp) (by simpa using e)
    obtain ⟨k1, k2, _⟩ := ok_part o1 hps
    show Q (.ref p) (upd r.H p (.tup [.str (Txt.partition (SX.S s) (SX.S [c])).1, .str (Txt.partition (SX.S s) (SX.S [c])).2.1, .str (Txt.partition (SX.S s) (SX.S [c])).2.2]))
    rw [ep]
    obtain ⟨e', R', q'⟩ := new_tup R hp (RVs.cons (mk_str k1) (RVs.cons (mk_str o2) (RVs.cons (mk_str k2) RVs.nil)))
    exact g { r with H := upd r.H p (.tup _) } (.ref p) rfl e' R' q'
theorem app_run {r : RC} {x : D} {v : V} {xs : List D} {vs : List V} {σ : St} {Q : VK} {W : WX} (R : Rep r) (h : RV r x v) (hs : RVs r xs vs) (g : GV ec r σ Q W (mtD .append x xs r.ns)) : rAppend v vs r.H Q := by
  have hx : ∃ i y, x = .ref i ∧ xs = [y] := by
    clear h hs
    cases x <;> first | exact False.elim g | skip
    rcases xs with _ | ⟨y, _ | ⟨z, zs⟩⟩ <;> first | exact False.elim g | skip
    exact ⟨_, _, rfl, rfl⟩
  obtain ⟨i, y, rfl, rfl⟩ := hx
  obtain ⟨w, rfl, hw⟩ := RVs.single hs
  simp only [RV] at h
  obtain ⟨hi, rfl⟩ := h
  simp only [mtD] at g
  split at g
  · rename_i zs hz
    obtain ⟨hl, g⟩ := Good.ite g
    obtain ⟨us, h1, h2⟩ := R.nod i _ hz
    refine ⟨_, us, w, rfl, rfl, h1, by rw [← h2.length]; exact lt_line hl, ?_⟩
    obtain ⟨e', R'⟩ := R.put (vs := us ++ [w]) hz (h2.append (RVs.cons hw RVs.nil))
    exact g (r.put i (us ++ [w]) (zs ++ [y])) .non rfl e' R' mk_non
  · exact False.elim g
end
end L2.MP
/-! MpE5b: a caught exception's fields. -/
namespace L2.MP
open PySem PySem.Spec PyProof.Rows
section
variable {cf : Cf} {G : Gl} {C : Nat → List D → Hs → MP.R D} {ec : EC} {k n : Nat} {B : RB} {N : List Str} {sc : Scope} {X : Cx} {e a b c : Expr} {es : List Expr} {m ma mb mc : E} {ms : List E} {pos p2 p : Pos}
theorem pe_fldX {f : Str} {te : TE} (hb : attributeBase e f X.env (eval e X.env) = eval e X.env) (he : PE X e te) :
    PE X (.Attribute e f pos) (fun σ H Q => te σ H fun x H1 => ∃ (ad Ca dd : Addr) (oe : Obj) (ws : Array Value) (fs : List (Str × V)) (v : V), x = .ref ad ∧ (ad, oe) ∈ X.pn ∧ oe.data = .fields ws ∧ Zc (.ref Ca) (some dd) oe ∧ XfC X.K Ca ∧ PySem.W.findIn X.K (.ref Ca) f = some none ∧
      H1 dd = some (.xd fs) ∧ fs.lookup f = some v ∧ Q v H1) := ⟨fun pins s σ H Q I h => by
  refine attr_of hb (thn (he.run pins s σ H _ I h) ?_)
  rintro u s1 ⟨x, H1, I1, rx, ad, Ca, dd, oe, ws, fs, v, rfl, hm, hd, hz, T, hno, hx, l, q⟩
  cases (show u = Value.ref ad from rx)
  obtain ⟨hget, _⟩ := I1.pin (ad, oe) (List.mem_append_left _ hm)
  obtain ⟨mA, hns, hr⟩ : ObjOk X.prog X.w H1 s1.heap dd (.xd fs) := I1.hok dd _ hx
  obtain ⟨od, ho, hl⟩ := lookIn_ns hns
  have hv := hr f
  rw [l] at hv
  obtain ⟨u, hu, ru⟩ := RelO.some_of hv
  have J : PySem.W.InstAt s1.heap ad oe Ca (some od) := by
    refine ⟨hget, hz.1, ?_, ?_⟩
    · unfold PySem.W.notCls
      rw [hd] <;> rfl
    · rw [hz.2]
      exact ho
  have fo := PySem.W.findObj_own (od := od) T.hdC hno rfl (by rw [hl, hu])
  exact HandSPX.exc_get I1.kIn J T.ga T.gg T.exC fo (handed_of ru) ⟨v, H1, I1.tok _, ru, q⟩⟩
theorem look_mem {α β : Type} [BEq α] [LawfulBEq α] {k : α} {v : β} : ∀ {l : List (α × β)}, l.lookup k = some v → (k, v) ∈ l
  | [], h => by cases h
  | (a, b) :: l, h => by
    rw [List.lookup_cons] at h
    cases e : (k == a) with
    | true =>
      rw [e] at h
      cases h
      rw [beq_iff_eq.mp e]
      exact List.mem_cons_self ..
    | false =>
      rw [e] at h
      exact List.mem_cons_of_mem _ (look_mem h)
theorem mem_look {α β : Type} [BEq α] [LawfulBEq α] {k : α} {v : β} : ∀ {l : List (α × β)}, (l.map Prod.fst).Nodup → (k, v) ∈ l → l.lookup k = some v
  | [], _, h => by simp at h
  | (a, b) :: l, hn, h => by
    rw [List.map_cons, List.nodup_cons] at hn
    rw [List.lookup_cons]
    rcases List.mem_cons.mp h with e | h2
    · cases e
      simp
    · have hne : (k == a) = false := by
        rw [beq_eq_false_iff_ne]
        intro z
        subst z
        exact hn.1 (List.mem_map.mpr ⟨_, h2, rfl⟩)
      rw [hne]
      exact mem_look hn.2 h2
theorem look_rv {r : RC} {f : List Nat} {d : D} : ∀ {ns : List (List Nat)} {ds : List D} {vs : List V}, (ns.zip ds).lookup f = some d → RVs r ds vs → ∃ v, ((ns.map fun n => (⟨n.toArray⟩ : Str)).zip vs).lookup (⟨f.toArray⟩ : Str) = some v ∧ RV r d v
  | [], _, _, h, _ => by simp at h
  | n :: ns, [], _, h, _ => by simp at h
  | n :: ns, x :: ds, vs, h, q => by
    obtain ⟨v, ws, rfl, q1, q2⟩ := RVs.inv q
    simp only [List.zip_cons_cons, List.lookup_cons] at h
    simp only [List.map_cons, List.zip_cons_cons, List.lookup_cons]
    have e : ((⟨f.toArray⟩ : Str) == ⟨n.toArray⟩) = (f == n) := by
      by_cases e : f = n
      · subst e; simp
      · have e2 : (⟨f.toArray⟩ : Str) ≠ ⟨n.toArray⟩ := fun z => e (by have := congrArg (fun s : Str => s.cps.toList) z; simpa using this)
        rw [beq_eq_false_iff_ne.mpr e2, beq_eq_false_iff_ne.mpr e]
    rw [e]
    cases q3 : (f == n) with
    | true =>
      rw [q3] at h
      cases h
      exact ⟨v, rfl, q1⟩
    | false =>
      rw [q3] at h
      exact look_rv h q2
theorem zip_keys {α β : Type} : ∀ {ns : List α} {vs : List β}, vs.length = ns.length → (ns.zip vs).map Prod.fst = ns
  | [], _, _ => by simp
  | n :: ns, [], h => by simp at h
  | n :: ns, v :: vs, h => by simp [zip_keys (ns := ns) (vs := vs) (by simpa using h)]
theorem snd_fld (g0 : XG cf G C ec k B N sc X) {f : Str} (hb : attributeBase a f X.env (eval a X.env) = eval a X.env) (ha : SndE G C ec B X a ma) : SndE G C ec B X (.Attribute a f pos) (.fld ma f.cps.toList) := by
  intro W tk σ r sl Q eB R S g
  simp only [evE] at g
  refine TM.of (pe_fldX hb pe_tm) (ha tk eB R S (g.step fun x h1 r1 v _ n1 e1 R1 q1 g1 => ?_))
  subst n1
  cases x <;> first | exact False.elim g1 | skip
  rename_i c fs heq
  have g1' : GV ec r1 σ Q W (MP.R.of ((G.fls[c]?).bind fun ns => (ns.zip fs).lookup f.cps.toList) r1.ns) := g1
  obtain ⟨d, hd, g2⟩ : ∃ d, ((G.fls[c]?).bind fun ns => (ns.zip fs).lookup f.cps.toList) = some d ∧ GV ec r1 σ Q W (.ok d r1.ns) := by
    cases e : ((G.fls[c]?).bind fun ns => (ns.zip fs).lookup f.cps.toList) with
    | none =>
      rw [e] at g1'
      exact False.elim g1'
    | some d =>
      rw [e] at g1'
      exact ⟨d, rfl, g1'⟩
  obtain ⟨ns, hns, hl⟩ := Option.bind_eq_some_iff.mp hd
  simp only [RV] at q1
  obtain ⟨ad, dx, rfl, h1, h2⟩ := q1
  obtain ⟨oe, ws, hm, hv, hz, x, hx⟩ := g0.xa ad c dx (by rw [← eB, ← e1.B]; exact h1)
  obtain ⟨_, Ca, _, eC⟩ := g0.wf.exc c x hx
  obtain ⟨k1, _, _⟩ := g0.wf.exk c x hx
  have EC := k1 Ca eC
  rw [eC] at hz
  rcases h2 with ⟨_, rfl⟩ | ⟨dd, us, rfl, _, h3, h4, h5⟩
  · simp at hl
  · obtain ⟨ns', hns', efl, hnd⟩ := g0.wf.fls c x hx
    rw [hns] at hns'
    cases hns'
    have eBf : r1.B.fl c = B.fl c := by rw [e1.B, eB]
    obtain ⟨v, hv1, hv2⟩ := look_rv hl h5
    have ef : (⟨f.cps.toList.toArray⟩ : Str) = f := by simp
    rw [ef] at hv1
    have kk : ∀ ys : List Str, ys = ns.map (fun n => (⟨n.toArray⟩ : Str)) → ys.Nodup := fun ys e => by
      rw [e]
      exact List.Pairwise.map _ (fun a b z w => z (by have := congrArg (fun s : Str => s.cps.toList) w; simpa using this)) hnd
    have hk : ((r1.B.fl c).zip us).lookup f = some v := by rw [eBf, efl]; exact hv1
    have hrev : ((r1.B.fl c).zip us).reverse.lookup f = some v := mem_look (by
      rw [List.map_reverse, zip_keys h4]
      exact List.pairwise_reverse.mpr ((show ((r1.B.fl c)).Nodup by rw [eBf]; exact kk _ efl).imp fun z w => z w.symm)) (List.mem_reverse.mpr (look_mem hk))
    have hfm : f ∈ B.fl c := by
      have := look_mem hk
      rw [eBf] at this
      exact (List.of_mem_zip this).1
    exact ⟨ad, Ca, dd, oe, ws, _, v, rfl, hm, hv, hz, ⟨EC.hg, EC.hk, EC.hs, EC.hd⟩, g0.wf.fno c x hx Ca eC f hfm, h3, hrev, g2 r1 v rfl (Ext.refl r1) R1 hv2⟩
end
end L2.MP
/-! MpE6: targets, iterables. -/
namespace L2.MP
open PySem PySem.Spec PyProof.Rows
section
variable {cf : Cf} {G : Gl} {C : Nat → List D → Hs → MP.R D} {ec : EC} {k n : Nat} {B : RB} {N : List Str} {sc : Scope} {X : Cx} {e a b c tg : Expr} {es : List Expr} {m ma mb mc mo : E} {ms : List E} {pos p2 p : Pos}
theorem RS.set {r : RC} {sl : Sl} {σ : St} (S : RS r sl σ) {i : Nat} {d : D} {v : V} (h : RV r d v) : RS r (sl.set i (some d)) (σ.set i (some v)) := by
  refine ⟨by rw [List.length_set, List.length_set]; exact S.1, fun j x q => ?_⟩
  rcases getV_set q with ⟨rfl, hx, hl⟩ | ⟨ne, q⟩
  · cases hx
    exact ⟨v, List.getElem?_set_self (by rw [← S.1]; exact hl), h⟩
  · obtain ⟨u, e1, e2⟩ := S.2 j x q
    exact ⟨u, by rw [List.getElem?_set_ne (Ne.symm ne)]; exact e1, e2⟩
theorem RS.unset {r : RC} {sl : Sl} {σ : St} (S : RS r sl σ) (i : Nat) : RS r (sl.set i none) (σ.set i none) := by
  refine ⟨by rw [List.length_set, List.length_set]; exact S.1, fun j x q => ?_⟩
  rcases getV_set q with ⟨rfl, hx, hl⟩ | ⟨ne, q⟩
  · cases hx
  · obtain ⟨u, e1, e2⟩ := S.2 j x q
    exact ⟨u, by rw [List.getElem?_set_ne (Ne.symm ne)]; exact e1, e2⟩
theorem RS.wipe {r : RC} {sl : Sl} {σ : St} (S : RS r sl σ) : ∀ vs : List Nat, RS r (wipeS sl vs) (L2.wipe σ vs)
  | [] => S
  | v :: vs => (RS.wipe S vs).unset v
theorem wipe_set {i : Nat} {x : Option V} : ∀ {vs : List Nat} {σ : St}, i ∈ vs → L2.wipe (σ.set i x) vs = L2.wipe σ vs
  | [], _, h => nomatch h
  | v :: vs, σ, h => by
    show (L2.wipe (σ.set i x) vs).set v none = (L2.wipe σ vs).set v none
    by_cases hv : i ∈ vs
    · rw [wipe_set hv]
    · have : i = v := by
        rcases List.mem_cons.mp h with h | h
        · exact h
        · exact absurd h hv
      subst this
      apply List.ext_getElem?
      intro j
      by_cases hj : j = i
      · subst hj
        rw [List.getElem?_set, List.getElem?_set]
        simp [wipe_length]
      · rw [List.getElem?_set_ne (Ne.symm hj), List.getElem?_set_ne (Ne.symm hj)]
        by_cases hjv : j ∈ vs
        · clear h
          have : ∀ (vs : List Nat) (σ : St), (L2.wipe (σ.set i x) vs)[j]? = (L2.wipe σ vs)[j]? := fun vs σ => by
            induction vs with
            | nil => exact List.getElem?_set_ne (Ne.symm hj)
            | cons w ws ih =>
              show ((L2.wipe (σ.set i x) ws).set w none)[j]? = ((L2.wipe σ ws).set w none)[j]?
              rw [List.getElem?_set, List.getElem?_set, ih, wipe_length, wipe_length, List.length_set]
          exact this vs σ
        · rw [wipe_out hjv, wipe_out hjv]
          exact List.getElem?_set_ne (Ne.symm hj)
/-- a scope's names that may be stored to -/
def Tg (sc' : Scope) (X : Cx) : Prop := ∀ x, sc'.names.lookup x = some .local ∨ sc'.names.lookup x = some .cell → L2.Loc X.env.scope x ∧ (X.fn x = true ∨ X.env.scope.names.lookup x = some .local)
def SndG (X : Cx) (tg : Expr) (t : T) : Prop := ∀ ⦃r : RC⦄ ⦃σ : St⦄ ⦃sl sl' : Sl⦄ ⦃d : D⦄ ⦃v : V⦄ ⦃Q : St → Hp → Prop⦄, r.B.K = X.K → Rep r → RV r d v → RS r sl σ → asgT r.ns t d sl = some sl' →
  (∀ σ', RS r sl' σ' → (∀ vs : List Nat, (∀ i ∈ tIx t, i ∈ vs) → L2.wipe σ' vs = L2.wipe σ vs) → Q σ' r.H) → GM X tg v σ r.H Q
def SndGs (X : Cx) (tgs : List Expr) (ts : List T) : Prop := ∀ ⦃r : RC⦄ ⦃σ : St⦄ ⦃sl sl' : Sl⦄ ⦃ds : List D⦄ ⦃vs : List V⦄ ⦃Q : St → Hp → Prop⦄, r.B.K = X.K → Rep r → RVs r ds vs → RS r sl σ → asgTs r.ns ts ds sl = some sl' →
  (∀ σ', RS r sl' σ' → (∀ vs : List Nat, (∀ i ∈ tIxs ts, i ∈ vs) → L2.wipe σ' vs = L2.wipe σ vs) → Q σ' r.H) → GMs X tgs vs σ r.H Q
def ShG (X : Cx) (tgs : List Expr) (ts : List T) : Prop := ∀ ⦃h : Hs⦄ ⦃ds : List D⦄ ⦃sl sl' : Sl⦄, asgTs h ts ds sl = some sl' → (∀ q ∈ assignEach tgs X.env, q.1 = false) ∧ (assignEach tgs X.env).length = ds.length
theorem sng_nm (hN : X.N.Nodup) {i : Nat} {x : Str} (hi : X.N[i]? = some x) (hl : L2.Loc X.env.scope x) (hf : X.fn x = true ∨ X.env.scope.names.lookup x = some .local) : SndG X (.Name x pos) (.nm i) := by
  intro r σ sl sl' d v Q eK R h S e q
  simp only [asgT, Option.some.injEq] at e
  subst e
  exact GM.of (pg_name hN hi hl hf) (q _ (S.set h) fun vs hv => wipe_set (hv i (by simp [tIx])))
theorem sng_tp {k1 : Nat} {ts : List T} (hc : X.calm = true) (h : SndGs X es ts) (hh : ShG X es ts) : SndG X (.Tuple es k1 pos) (.tp ts) := by
  intro r σ sl sl' d v Q eK R hv S e q
  cases d <;> simp only [asgT] at e <;> first | cases e | skip
  rename_i ds
  obtain ⟨a, vs, rfl, h1, h2⟩ := tup_inv hv
  obtain ⟨f1, f2⟩ := hh e
  have g := h eK R h2 S e (Q := Q) (fun σ' S' w => q σ' S' fun vs hh => w vs (by simpa only [tIx] using hh))
  refine GM.of (pg_tup (n := (assignEach es X.env).length) hc pgs_gms rfl (List.findIdx?_eq_none_iff.mpr fun q hq => by simp [f1 q hq])) ⟨a, vs, rfl, by rw [← eK]; exact h1, by rw [f2, h2.length], g⟩
theorem sng_nil : SndGs X [] [] := by
  intro r σ sl sl' ds vs Q eK R hv S e q
  cases ds with
  | nil =>
    simp only [asgTs, Option.some.injEq] at e
    subst e
    rw [RVs.invN hv]
    exact GMs.of pgs_nil ⟨rfl, q σ S fun _ _ => rfl⟩
  | cons x xs => simp [asgTs] at e
theorem shg_nil : ShG X [] [] := by
  intro h ds sl sl' e
  cases ds with
  | nil => exact ⟨fun _ z => (nomatch z), rfl⟩
  | cons x xs => simp [asgTs] at e
theorem shg_cons {t : T} {ts : List T} (hs : ∀ u p, e = .Starred u p → ∀ h d sl, asgT h t d sl = none) (h2 : ShG X es ts) : ShG X (e :: es) (t :: ts) ∧ ∀ h d sl sl', asgT h t d sl = some sl' → assignEach (e :: es) X.env = (false, assign e X.env) :: assignEach es X.env := by
  have hst : ∀ h d sl sl', asgT h t d sl = some sl' → assignEach (e :: es) X.env = (false, assign e X.env) :: assignEach es X.env := fun h d sl sl' e1 => by
    cases e <;> first | rfl | skip
    rename_i u p
    rw [hs u p rfl] at e1
    cases e1
  refine ⟨?_, hst⟩
  intro h ds sl sl' ee
  cases ds with
  | nil => simp [asgTs] at ee
  | cons d ds =>
    simp only [asgTs] at ee
    obtain ⟨sl1, e1, e2⟩ := of_bind ee
    obtain ⟨f1, f2⟩ := h2 e2
    rw [hst _ _ _ _ e1]
    refine ⟨fun q hq => ?_, by simp [f2]⟩
    rcases List.mem_cons.mp hq with rfl | hq
    · rfl
    · exact f1 q hq
theorem sng_cons {t : T} {ts : List T} (hs : ∀ h d sl sl', asgT h t d sl = some sl' → assignEach (e :: es) X.env = (false, assign e X.env) :: assignEach es X.env) (h1 : SndG X e t) (h2 : SndGs X es ts) : SndGs X (e :: es) (t :: ts) := by
  intro r σ sl sl' ds vs Q eK R hv S ee q
  cases ds with
  | nil => simp [asgTs] at ee
  | cons d ds =>
    simp only [asgTs] at ee
    obtain ⟨sl1, e1, e2⟩ := of_bind ee
    obtain ⟨v, ws, rfl, v1, v2⟩ := RVs.inv hv
    refine GMs.of (pgs_cons pg_gm pgs_gms (by rw [hs _ _ _ _ e1]; rfl)) ⟨v, ws, rfl, h1 eK R v1 S e1 fun σ1 S1 w1 => ?_⟩
    exact h2 eK R v2 S1 e2 (Q := Q) fun σ2 S2 w2 => q σ2 S2 fun vs hh => by
      rw [w2 vs fun i hi => hh i (by simp [tIxs, hi]), w1 vs fun i hi => hh i (by simp [tIxs, hi])]
/-- a target of the text -/
theorem trT_snd (hN : X.N.Nodup) (eN : X.N = N) (hc : X.calm = true) (hT : Tg sc X) : ∀ (n : Nat) (tg : Expr) (t : T) (nd : Bool), trT nd n N sc tg = some t → SndG X tg t
  | 0, _, _, _, h => by cases h
  | n + 1, tg, t, nd, h => by
    have nm : ∀ {x : Str} {i : Nat} {p : Pos} {kd : NameKind}, sc.names.lookup x = some kd → (kd = .local ∨ kd = .cell) → ixOf N x = some i → SndG X (.Name x p) (.nm i) := fun {x i p kd} h1 h2 h3 => by
      have hx : sc.names.lookup x = some .local ∨ sc.names.lookup x = some .cell := by
        rcases h2 with rfl | rfl
        · exact .inl h1
        · exact .inr h1
      obtain ⟨k1, k2⟩ := hT x hx
      exact sng_nm hN (by rw [eN]; exact ixOf_get h3) k1 k2
    have all : ∀ (m : Nat), m ≤ n → ∀ (es : List Expr) (ts : List T), trTs nd m N sc es = some ts → SndGs X es ts ∧ ShG X es ts := fun m => by
      induction m with
      | zero => intro _ es ts h; cases h
      | succ m ih =>
        intro hm es ts h
        cases es with
        | nil =>
          unfold trTs at h
          cases h
          exact ⟨sng_nil, shg_nil⟩
        | cons e es =>
          unfold trTs at h
          obtain ⟨t1, h1, h⟩ := of_bind h
          obtain ⟨ts1, h2, h⟩ := of_bind h
          cases h
          obtain ⟨i1, i2⟩ := ih (by omega) es ts1 h2
          have g1 : SndG X e t1 := by
            have : m < n + 1 := by omega
            exact trT_snd hN eN hc hT m e t1 nd h1
          have st : ∀ u p, e = .Starred u p → ∀ h d sl, asgT h t1 d sl = none := fun u p ee hh d sl => by
            subst ee
            cases m with
            | zero => cases h1
            | succ m =>
              unfold trT at h1
              split at h1
              all_goals first | (rename_i he; cases he; done) | skip
              · rename_i he _ _
                cases he
                split at h1
                · obtain ⟨i, _, rfl⟩ := Option.map_eq_some_iff.mp h1
                  rfl
                · cases h1
              · cases h1
          obtain ⟨j1, j2⟩ := shg_cons (X := X) st i2
          exact ⟨sng_cons j2 g1 i1, j1⟩
    unfold trT at h
    split at h
    · split at h
      · rename_i hl
        obtain ⟨i, hi, rfl⟩ := Option.map_eq_some_iff.mp h
        exact nm hl (.inl rfl) hi
      · rename_i hl
        obtain ⟨i, hi, rfl⟩ := Option.map_eq_some_iff.mp h
        exact nm hl (.inr rfl) hi
      · cases h
    · obtain ⟨ts, h1, rfl⟩ := Option.map_eq_some_iff.mp h
      obtain ⟨i1, i2⟩ := all n (Nat.le_refl _) _ _ h1
      exact sng_tp hc i1 i2
    · split at h
      · obtain ⟨i, _, rfl⟩ := Option.map_eq_some_iff.mp h
        intro r σ sl sl' d v Q eK R hv S e q
        simp [asgT] at e
      · cases h
    · cases h
end
end L2.MP
/-! MpE7: iterables, comprehensions. -/
namespace L2.MP
open PySem PySem.Spec PyProof.Rows
section
variable {cf : Cf} {G : Gl} {C : Nat → List D → Hs → MP.R D} {ec : EC} {k n : Nat} {B : RB} {N : List Str} {sc : Scope} {X : Cx} {e a b c tg : Expr} {es : List Expr} {m ma mb mc mo : E} {ms : List E} {pos p2 p : Pos}
theorem seqV_ext {r r1 : RC} (R : Rep r) (e : Ext r r1) (R1 : Rep r1) {x : D} {xs : List D} {v : V} (h : seqV r.ns x = some xs) (q : RV r x v) (hc : chk (srcOf x xs) r1.ns = true) : seqV r1.ns x = some xs ∧ RV r1 x v := by
  refine ⟨?_, RV.ext R e q⟩
  cases x with
  | tup ys => exact h
  | lst ys => exact h
  | ref i =>
    simp only [srcOf, chk, List.all_cons, List.all_nil, Bool.and_true] at hc
    simp only [seqV]
    split at hc
    · rename_i ys hy
      rw [hy]
      exact congrArg some (of_decide_eq_true hc)
    · cases hc
  | _ => cases h
theorem itr_list {r : RC} (R : Rep r) {x : D} {xs : List D} {ad : Addr} {K : PySem.W.Frag} (eK : r.B.K = K) (h : seqV r.ns x = some xs) (q : RV r x (.ref ad)) (ht : ∀ ys, x ≠ .tup ys) : ItR r (xs, srcOf x xs) (Itl K ad) := by
  intro r1 e R1 hc i
  obtain ⟨h1, q1⟩ := seqV_ext R e R1 h q hc
  have hl : lstV r1.ns x = some xs := by
    cases x with
    | tup ys => exact absurd rfl (ht ys)
    | lst ys => exact h1
    | ref i => exact h1
    | _ => cases h1
  obtain ⟨a', ws, ea, p1, p2⟩ := lstV_inv R1 hl q1
  cases ea
  have sq : SqL K r1.H ad ws := SqL.of p1
  refine ⟨fun y hy => ?_, fun hi => ⟨ws, sq, by rw [← p2.length]; exact hi⟩⟩
  obtain ⟨u, hu, ru⟩ := p2.get hy
  refine ⟨⟨ws, u, sq, hu⟩, fun v H' ⟨eH, hv⟩ => ?_⟩
  have := hv ws sq
  rw [hu] at this
  cases this
  exact ⟨r1, eH.symm, Ext.refl r1, R1, rfl, ru⟩
theorem itr_tup {r : RC} (R : Rep r) {xs : List D} {ad : Addr} {K : PySem.W.Frag} (eK : r.B.K = K) (q : RV r (.tup xs) (.ref ad)) : ItR r (xs, []) (Itt K ad) := by
  intro r1 e R1 hc i
  obtain ⟨a', ws, ea, p1, p2⟩ := tup_inv (RV.ext R e q)
  cases ea
  have sq : SqT K r1.H ad ws := by rw [← eK, ← e.B]; exact p1
  refine ⟨fun y hy => ?_, fun hi => ⟨ws, sq, by rw [← p2.length]; exact hi⟩⟩
  obtain ⟨u, hu, ru⟩ := p2.get hy
  refine ⟨⟨ws, u, sq, hu⟩, fun v H' ⟨eH, hv⟩ => ?_⟩
  have := hv ws sq
  rw [hu] at this
  cases this
  exact ⟨r1, eH.symm, Ext.refl r1, R1, rfl, ru⟩
theorem itr_str {r : RC} {s : List Nat} (o : okS s) : ItR r (s.map fun c => .str [c], []) (Its ⟨s.toArray⟩) := by
  intro r1 e R1 hc i
  refine ⟨fun y hy => ?_, fun hi => ?_⟩
  · simp only [List.getElem?_map, Option.map_eq_some_iff] at hy
    obtain ⟨c, hc, rfl⟩ := hy
    refine ⟨?_, fun v H' ⟨eH, c', hc', ev⟩ => ?_⟩
    · show i < (⟨s.toArray⟩ : Str).cps.size
      simpa using get_lt hc
    · have : s[i]? = some c' := by simpa using hc'
      rw [hc] at this
      cases this
      subst ev
      exact ⟨r1, eH.symm, Ext.refl r1, R1, rfl, mk_str (s := [c]) fun z hz => by
        rw [List.mem_singleton] at hz
        subst hz
        exact o z (List.mem_of_getElem? hc)⟩
  · show (⟨s.toArray⟩ : Str).cps.size ≤ i
    simpa using hi
theorem itr_range {r : RC} {lo : Int} {n : Nat} : ItR r (rangeL lo n, []) (Itr lo n) := by
  intro r1 e R1 hc i
  refine ⟨fun y hy => ?_, fun hi => ?_⟩
  · simp only [rangeL, List.getElem?_map, Option.map_eq_some_iff] at hy
    obtain ⟨j, hj, rfl⟩ := hy
    have hl : i < n := by simpa using get_lt hj
    rw [List.getElem?_range hl] at hj
    cases hj
    exact ⟨hl, fun v H' ⟨eH, ev⟩ => ⟨r1, eH.symm, Ext.refl r1, R1, rfl, by rw [ev]; exact mk_int _⟩⟩
  · show n ≤ i
    simpa [rangeL] using hi
theorem sni_ex (g0 : XG cf G C ec k B N sc X) (ha : SndE G C ec B X a ma) : SndI G C ec B X tg a (.ex ma) := by
  intro W tk σ r sl Q eB R S g
  have eK : X.K = r.B.K := by rw [g0.eK, eB]
  simp only [evI] at g
  cases ev : evE G C ma sl r.ns with
  | bad => rw [ev] at g; exact False.elim g
  | exc c fs h1 =>
    rw [ev] at g
    have hq : TM X a σ r.H fun _ _ => False := ha tk eB R S (by rw [ev]; exact g)
    exact IM.of (pi_list pe_tm) (hq.mono fun _ _ z => False.elim z)
  | ok x h1 =>
    rw [ev] at g
    have hq : ∀ Q' : VK, (∀ v r1, r1.ns = h1 → Ext r r1 → Rep r1 → RV r1 x v → Q' v r1.H) → TM X a σ r.H Q' := fun Q' q => ha tk eB R S (by rw [ev]; exact fun r1 v n e R1 rv => q v r1 n e R1 rv)
    simp only [MP.R.bind] at g
    cases x with
    | str s =>
      refine IM.of (pi_str pe_tm) (hq _ fun v r1 n1 e1 R1 q1 => ?_)
      obtain ⟨rfl, o⟩ := rv_str q1
      exact ⟨_, rfl, g r1 _ n1 e1 R1 (itr_str o)⟩
    | tup xs =>
      refine IM.of (pi_tup pe_tm) (hq _ fun v r1 n1 e1 R1 q1 => ?_)
      obtain ⟨ad, ws, rfl, p1, p2⟩ := tup_inv q1
      have eK1 : r1.B.K = X.K := by rw [e1.B, ← eK]
      exact ⟨ad, rfl, ⟨ws, by rw [← eK1]; exact p1⟩, g r1 _ n1 e1 R1 (itr_tup R1 eK1 q1)⟩
    | lst xs =>
      refine IM.of (pi_list pe_tm) (hq _ fun v r1 n1 e1 R1 q1 => ?_)
      obtain ⟨ad, ws, rfl, p1, p2⟩ := lstV_inv (d := .lst xs) R1 rfl q1
      have eK1 : r1.B.K = X.K := by rw [e1.B, ← eK]
      exact ⟨ad, rfl, ⟨ws, SqL.of p1⟩, g r1 _ n1 e1 R1 (itr_list (x := .lst xs) R1 eK1 rfl q1 fun _ z => nomatch z)⟩
    | ref i =>
      cases hs : seqV h1 (.ref i) with
      | none => rw [hs] at g; exact False.elim g
      | some xs =>
        rw [hs] at g
        refine IM.of (pi_list pe_tm) (hq _ fun v r1 n1 e1 R1 q1 => ?_)
        subst n1
        obtain ⟨ad, ws, rfl, p1, p2⟩ := lstV_inv (d := .ref i) R1 hs q1
        have eK1 : r1.B.K = X.K := by rw [e1.B, ← eK]
        exact ⟨ad, rfl, ⟨ws, SqL.of p1⟩, g r1 _ rfl e1 R1 (itr_list (x := .ref i) R1 eK1 hs q1 fun _ z => nomatch z)⟩
    | _ => exact False.elim g
theorem enumL_get : ∀ {xs : List D} {k : Int} {i : Nat} {y : D}, (enumL k xs)[i]? = some y → ∃ x, xs[i]? = some x ∧ y = .tup [.int (k + i), x]
  | [], k, i, y, h => by simp [enumL] at h
  | x :: xs, k, 0, y, h => by
    simp only [enumL, List.getElem?_cons_zero, Option.some.injEq] at h
    exact ⟨x, rfl, by rw [← h]; simp⟩
  | x :: xs, k, i + 1, y, h => by
    simp only [enumL, List.getElem?_cons_succ] at h
    obtain ⟨z, h1, h2⟩ := enumL_get h
    refine ⟨z, by simpa using h1, ?_⟩
    rw [h2]
    congr 3
    push_cast
    omega
theorem enumL_len : ∀ {xs : List D} {k : Int}, (enumL k xs).length = xs.length
  | [], _ => rfl
  | x :: xs, k => by simp [enumL, enumL_len]
theorem itr_enum {r : RC} (R : Rep r) {x : D} {xs : List D} {ad : Addr} {K : PySem.W.Frag} (h : lstV r.ns x = some xs) (q : RV r x (.ref ad)) : ItR r (enumL 0 xs, srcOf x xs) (Ite K ad) := by
  intro r1 e R1 hc i
  have hsq : seqV r.ns x = some xs := by
    cases x with
    | lst ys => exact h
    | ref i => exact h
    | _ => cases h
  obtain ⟨h1, q1⟩ := seqV_ext R e R1 hsq q hc
  have hl : lstV r1.ns x = some xs := by
    cases x with
    | lst ys => exact h1
    | ref i => exact h1
    | _ => cases h
  obtain ⟨a', ws, ea, p1, p2⟩ := lstV_inv R1 hl q1
  cases ea
  have sq : SqL K r1.H ad ws := SqL.of p1
  refine ⟨fun y hy => ?_, fun hi => ⟨ws, sq, by rw [← p2.length, ← enumL_len (k := 0)]; exact hi⟩⟩
  obtain ⟨z, hz, rfl⟩ := enumL_get hy
  obtain ⟨u, hu, ru⟩ := p2.get hz
  refine ⟨⟨ws, u, sq, hu⟩, fun v H' ⟨T, w, ev, hT, eH, hv⟩ => ?_⟩
  have := hv ws sq
  rw [hu] at this
  cases this
  subst ev eH
  obtain ⟨e', R', q'⟩ := new_tup R1 hT (RVs.cons (mk_int (i : Int)) (RVs.cons ru RVs.nil))
  exact ⟨_, rfl, e', R', rfl, by rw [Int.zero_add]; exact q'⟩
theorem sni_enum (g0 : XG cf G C ec k B N sc X) {elts : List Expr} {kk : Nat} {tpos : Pos} (hg : glo? sc "enumerate" = true) (hf : ixOf cf.fns "enumerate" = none) (hx : ixOf cf.exs "enumerate" = none) (he : starEach [a] X.env = [(false, eval a X.env)])
    (ha : SndE G C ec B X a ma) : SndI G C ec B X (.Tuple elts kk tpos) (.Call (.Name "enumerate" p) [a] [] pos) (.enum ma 0) := by
  intro W tk σ r sl Q eB R S g
  simp only [evI] at g
  refine IM.of (pi_enum (glo_gl g0 hg) (g0.wf.bi _ (by decide +kernel) hf hx) (pa_cons pe_tm pa_nil he) he) (ha tk eB R S (g.step fun x h1 r1 v1 _ n1 e1 R1 q1 g1 => ?_))
  subst n1
  obtain ⟨xs, hl, g1⟩ := Good.of g1
  obtain ⟨ad, ws, rfl, p1, p2⟩ := lstV_inv R1 hl q1
  exact ⟨ad, ws, rfl, SqL.of p1, g1 r1 _ rfl (Ext.refl r1) R1 (itr_enum R1 hl q1)⟩
theorem sni_rng2 (g0 : XG cf G C ec k B N sc X) (hg : glo? sc "range" = true) (hf : ixOf cf.fns "range" = none) (hx : ixOf cf.exs "range" = none) (he : starEach [a, b] X.env = [(false, eval a X.env), (false, eval b X.env)]) (he2 : starEach [b] X.env = [(false, eval b X.env)])
    (ha : SndE G C ec B X a ma) (hb : SndE G C ec B X b mb) : SndI G C ec B X tg (.Call (.Name "range" p) [a, b] [] pos) (.range ma mb) := by
  intro W tk σ r sl Q eB R S g
  simp only [evI] at g
  refine IM.of (pi_range2 (glo_gl g0 hg) (g0.wf.bi _ (by decide +kernel) hf hx) (pa_cons pe_tm (pa_cons pe_tm pa_nil he2) (by rw [he, he2])) he he2) (ha tk eB R S (g.step fun x h1 r1 v1 _ n1 e1 R1 q1 g1 => ?_))
  subst n1
  refine hb tk (e1.B.trans eB) R1 (S.ext R e1) (g1.step fun y h2 r2 v2 _ n2 e2 R2 q2 g2 => ?_)
  subst n2
  split at g2
  · obtain ⟨hz, g2⟩ := Good.ite g2
    rw [rv_int q1, rv_int q2]
    exact ⟨_, _, rfl, by omega, g2 r2 _ rfl (Ext.refl r2) R2 itr_range⟩
  · exact False.elim g2
theorem sni_rng1 (g0 : XG cf G C ec k B N sc X) (hg : glo? sc "range" = true) (hf : ixOf cf.fns "range" = none) (hx : ixOf cf.exs "range" = none) (he : starEach [a] X.env = [(false, eval a X.env)])
    (ha : SndE G C ec B X a ma) : SndI G C ec B X tg (.Call (.Name "range" p) [a] [] pos) (.range (.cst (.int 0)) ma) := by
  intro W tk σ r sl Q eB R S g
  simp only [evI, evE] at g
  refine IM.of (pi_range1 (glo_gl g0 hg) (g0.wf.bi _ (by decide +kernel) hf hx) (pa_cons pe_tm pa_nil he) he) (ha tk eB R S (Good.step (f := fun y h => match y with
    | .int j => if -1000000 ≤ (0 : Int) ∧ (0 : Int) ≤ 1000000 ∧ -1000000 ≤ j ∧ j ≤ 1000000 then .ok (rangeL 0 (j - 0).toNat, []) h else .bad
    | _ => .bad) (rel2 := ItR) (Q2 := Q) ?_ fun y h2 r2 v2 _ n2 e2 R2 q2 g2 => ?_))
  · have e : ∀ x : MP.R D, (x.bind fun y h => match (D.int 0), y with
      | .int i, .int j => if -1000000 ≤ i ∧ i ≤ 1000000 ∧ -1000000 ≤ j ∧ j ≤ 1000000 then MP.R.ok (rangeL i (j - i).toNat, ([] : Src)) h else .bad
      | _, _ => .bad) = x.bind fun y h => match y with
      | .int j => if -1000000 ≤ (0 : Int) ∧ (0 : Int) ≤ 1000000 ∧ -1000000 ≤ j ∧ j ≤ 1000000 then .ok (rangeL 0 (j - 0).toNat, []) h else .bad
      | _ => .bad := fun x => by
      congr 1
      funext y h
      cases y <;> rfl
    rw [← e]
    exact g
  · subst n2
    split at g2
    · obtain ⟨hz, g2⟩ := Good.ite g2
      rw [rv_int q2]
      refine ⟨_, rfl, by omega, by omega, ?_⟩
      rw [Int.sub_zero] at g2
      exact g2 r2 _ rfl (Ext.refl r2) R2 itr_range
    · exact False.elim g2
end
end L2.MP
/-! MpE8: comprehensions. -/
namespace L2.MP
open PySem PySem.Spec PyProof.Rows
section
variable {cf : Cf} {G : Gl} {C : Nat → List D → Hs → MP.R D} {ec : EC} {k n : Nat} {B : RB} {N : List Str} {sc scope : Scope} {X : Cx} {e a b c tg iter elt : Expr} {es ifs : List Expr} {m ma mb mc mo me : E} {ms : List E} {pos p2 p : Pos}
theorem wipe_in {σ : St} {j : Nat} : ∀ {vs : List Nat}, j ∈ vs → (L2.wipe σ vs)[j]? = if j < σ.length then some none else none
  | [], h => nomatch h
  | v :: vs, h => by
    show ((L2.wipe σ vs).set v none)[j]? = _
    by_cases hv : v = j
    · subst hv
      rw [List.getElem?_set, if_pos rfl, wipe_length]
    · rw [List.getElem?_set_ne hv]
      exact wipe_in ((List.mem_cons.mp h).resolve_left (Ne.symm hv))
theorem wipe_idem {σ : St} {vs : List Nat} : L2.wipe (L2.wipe σ vs) vs = L2.wipe σ vs := by
  apply List.ext_getElem?
  intro j
  by_cases h : j ∈ vs
  · rw [wipe_in h, wipe_in h, wipe_length]
  · rw [wipe_out h]
theorem lookup_relS {sc : Scope} {kd : NameKind} (hk : kd ≠ .free) : ∀ {names : List (Str × NameKind)} {x : Str}, names.lookup x = some kd →
    (names.map fun y => match y with | (n, k) => if (k == NameKind.free && sc.kind == .function && sc.names.lookup n == some .cell) = true then (n, NameKind.cell) else (n, k)).lookup x = some kd
  | [], x, h => by simp at h
  | (n, k) :: r, x, h => by
    have ih := @lookup_relS sc kd hk r x
    simp only [List.map_cons]
    cases hx : x == n with
    | true =>
      simp only [List.lookup, hx, Option.some.injEq] at h
      subst h
      have : (k == NameKind.free) = false := by cases k <;> first | rfl | exact absurd rfl hk
      rw [this]
      simp [List.lookup, hx]
    | false =>
      simp only [List.lookup, hx] at h
      split <;> simp only [List.lookup, hx] <;> exact ih h
abbrev blkX (X : Cx) (scope : Scope) (s : Shared) (H : Hp) (Ca : Addr) (cl : List (Str × Addr)) (fp : List Addr) : Cx := X.blk s H scope (compEnvC scope cl Ca X.env) fp
theorem blk_xg (g0 : XG cf G C ec k B N sc X) (hc : cf.calm = true) (s : Shared) (H : Hp) (Ca : Addr) (cl : List (Str × Addr)) (fp : List Addr) : XG cf G C ec k B N (L2.relS scope sc) (blkX X scope s H Ca cl fp) where
  eK := g0.eK
  nd := g0.nd
  room := g0.room
  gd := g0.gd
  eN := g0.eN
  eS := by rw [← g0.eS]; rfl
  nn := g0.nn
  xa := fun a c d h => by rw [(g0.calm hc).2.2] at h; cases h
  calm := g0.calm
  wf := g0.wf
theorem blk_tg (s : Shared) (H : Hp) (Ca : Addr) (cl : List (Str × Addr)) (fp : List Addr) : Tg scope (blkX X scope s H Ca cl fp) := fun x h => by
  have r1 : ∀ kd, kd ≠ NameKind.free → scope.names.lookup x = some kd → (blkX X scope s H Ca cl fp).env.scope.names.lookup x = some kd := fun kd hk h => lookup_relS (sc := X.env.scope) hk h
  rcases h with h | h
  · exact ⟨.inl (r1 _ (by decide) h), .inr (r1 _ (by decide) h)⟩
  · refine ⟨.inr (r1 _ (by decide) h), .inl ?_⟩
    show (scope.names.lookup x == some .cell) = true
    rw [h]; rfl

theorem Ext.tick {r r4 : RC} (e : Ext r r4) (R4 : Rep r4) {p : Addr} {vs : List V} (hp : r.H p = none) (hpv : ¬ r.pv p) (hq : r4.pv p) : Ext r { r4 with H := upd r4.H p (.lst vs) } :=
  ⟨⟨e.B, fun a u h n => by
    show upd r4.H p _ a = some u
    rw [upd_ne (ne_of_none h hp)]; exact e.keep a u h n, fun a w => e.own a w, e.loc, e.len⟩, e.pv, fun a h => by
    show upd r4.H p _ a = _
    rw [upd_ne fun z : a = p => hpv (z ▸ h)]; exact e.prv a h⟩
/-- a private list becomes a value -/
theorem adopt {ec : EC} {r r1 : RC} {σ : St} {Q : VK} {W : WX} {nd : Bool} {xs : List D} {vs : List V} {p : Addr} (R : Rep r) (e : Ext r r1) (R1 : Rep r1) (hp : r.H p = none) (hq : r1.pv p) (hH : r1.H p = some (.lst vs)) (h : RVs r1 xs vs)
    (g : GV ec r σ Q W (lstOf nd xs r1.ns)) : Q (.ref p) r1.H := by
  have hpv : ∀ a, r.pv a → a ≠ p := fun a z => by
    obtain ⟨ws, q⟩ := R.pvs a z
    exact ne_of_none q hp
  obtain ⟨e2, R2⟩ := R1.show p
  have h2 := RVs.ext0 R1 e2 h
  have nw : ¬ (r1.show p).W p := by
    rintro (⟨i, ys, q, z⟩ | w)
    · exact R1.sep i _ q (by rw [show r1.loc i = p from z]; exact hq)
    · exact w.2 rfl
  have ee : Ext r (r1.show p) := ⟨⟨e.B, e.keep, fun a w => by
    rcases w with w | w
    · exact e.own a (.inl w)
    · exact e.own a (.inr w.1), e.loc, e.len⟩, fun a z => ⟨e.pv a z, hpv a z⟩, e.prv⟩
  cases nd with
  | false => exact g (r1.show p) (.ref p) rfl ee R2 (by simp only [RV]; exact ⟨p, vs, rfl, hH, nw, h2⟩)
  | true =>
    have ll : ∀ i, i < r1.ns.length → (if i = r1.ns.length then p else r1.loc i) = r1.loc i := fun i hi => if_neg (Nat.ne_of_lt hi)
    have len : (r1.ns ++ [Nd.lst xs]).length = r1.ns.length + 1 := by simp
    let r3 : RC := ⟨r1.B, r1.H, fun i => if i = r1.ns.length then p else r1.loc i, r1.ns ++ [.lst xs], fun a => r1.pv a ∧ a ≠ p⟩
    have hw : ∀ a, r3.W a → r1.W a := fun a w => by
      rcases w with ⟨i, ys, q, rfl⟩ | w
      · rcases get_app q with ⟨hi, q⟩ | ⟨rfl, _⟩
        · exact .inl ⟨i, ys, q, (ll i hi).symm⟩
        · exact .inr (by show r1.pv (if r1.ns.length = r1.ns.length then p else _); rw [if_pos rfl]; exact hq)
      · exact .inr w.1
    have e3 : Ext0 r1 r3 := ⟨rfl, fun _ _ h _ => h, fun a w => .inl (hw a w), fun i hi => ll i hi, by show _ ≤ (r1.ns ++ [Nd.lst xs]).length; rw [len]; exact Nat.le_succ _⟩
    have lp : r3.loc r1.ns.length = p := if_pos rfl
    have R3 : Rep r3 := ⟨fun i j hi hj z => by
      have hi' : i < (r1.ns ++ [Nd.lst xs]).length := hi
      have hj' : j < (r1.ns ++ [Nd.lst xs]).length := hj
      rw [len] at hi' hj'
      by_cases ei : i = r1.ns.length
      · by_cases ej : j = r1.ns.length
        · rw [ei, ej]
        · have hj2 : j < r1.ns.length := by omega
          rw [ei, lp] at z
          have z2 : r1.loc j = p := (ll j hj2).symm.trans z.symm
          exact absurd (by rw [z2]; exact hq) (R1.sep j _ (List.getElem?_eq_getElem hj2))
      · have hi2 : i < r1.ns.length := by omega
        by_cases ej : j = r1.ns.length
        · rw [ej, lp] at z
          have z2 : r1.loc i = p := (ll i hi2).symm.trans z
          exact absurd (by rw [z2]; exact hq) (R1.sep i _ (List.getElem?_eq_getElem hi2))
        · have hj2 : j < r1.ns.length := by omega
          exact R1.inj i j hi2 hj2 ((ll i hi2).symm.trans (z.trans (ll j hj2))), fun i nd q => by
      rcases get_app q with ⟨hi, q⟩ | ⟨rfl, rfl⟩
      · have h1 := R1.nod i nd q
        cases nd with
        | lst ys =>
          obtain ⟨ws, h2, h3⟩ := h1
          exact ⟨ws, by show r1.H (if i = _ then _ else _) = _; rw [ll i hi]; exact h2, RVs.ext0 R1 e3 h3⟩
      · exact ⟨vs, by show r1.H (if r1.ns.length = r1.ns.length then p else _) = _; rw [if_pos rfl]; exact hH, RVs.ext0 R1 e3 h⟩, fun i nd q z => by
      rcases get_app q with ⟨hi, q⟩ | ⟨rfl, rfl⟩
      · have z1 : r1.pv (if i = r1.ns.length then p else r1.loc i) := z.1
        rw [ll i hi] at z1
        exact R1.sep i nd q z1
      · exact z.2 lp, fun a z => R1.pvs a z.1⟩
    exact g r3 (.ref p) rfl ⟨⟨e.B, e.keep, fun a w => e.own a (hw a w), fun i hi => (ll i (Nat.lt_of_lt_of_le hi e.len)).trans (e.loc i hi), Nat.le_trans e.len e3.len⟩, fun a z => ⟨e.pv a z, hpv a z⟩, e.prv⟩ R3 (by
      simp only [RV]
      exact ⟨by show _ < (r1.ns ++ [Nd.lst xs]).length; rw [len]; exact Nat.lt_succ_self _, by rw [lp]⟩)
/-- the conditions of a comprehension -/
def CTM (X : Cx) (ifs : List Expr) : TT := fun σ H Q => ∀ (pins : List (Addr × Obj)) (s : Shared), Inv X pins σ H s → wpAny (model X.prog X.w) X.A (forIn ifs true fun c r => if r = true then do
    let ok ← PySem.isTrue c X.env (eval c X.env)
    pure (ForInStep.yield ok) else pure (ForInStep.yield r)) (TP X pins σ Q) X.xe s
theorem pts_ctm {X : Cx} {ifs : List Expr} : PTs X ifs (CTM X ifs) := ⟨fun pins s _ _ _ I h => h pins s I⟩
def SndC (G : Gl) (C : Nat → List D → Hs → MP.R D) (ec : EC) (B : RB) (X : Cx) (ifs : List Expr) (m : Option E) : Prop :=
  ∀ ⦃W : WX⦄, Takes X W → ∀ ⦃σ : St⦄ ⦃r : RC⦄ ⦃sl : Sl⦄ ⦃Q : Bool → Hp → Prop⦄, r.B = B → Rep r → RS r sl σ → Good ec eqR r σ Q W (evC G C m sl r.ns) → CTM X ifs σ r.H Q
theorem sndC_none : SndC G C ec B X [] none := by
  intro W tk σ r sl Q eB R S g pins s I
  exact pts_nil.run pins s σ r.H Q I (g.okI R rfl)
theorem sndC_some (h : SndT G C ec B X c mc) : SndC G C ec B X [c] (some mc) := by
  intro W tk σ r sl Q eB R S g pins s I
  exact (pts_one pt_ttm).run pins s σ r.H Q I (h tk eB R S g)
/-- one item of a comprehension -/
def lcF (G : Gl) (C : Nat → List D → Hs → MP.R D) (own : List Nat) (t : T) (mc : Option E) (me : E) (sl : Sl) : D → Hs → MP.R (Option D) := fun x h => (MP.R.of (asgT h t x (wipeS sl own)) h).bind fun sl2 h => (evC G C mc sl2 h).bind fun ok h =>
      if ok then (evE G C me sl2 h).bind fun y h => .ok (some y) h else .ok none h
def LcW (r : RC) (src : Src) (f : D → Hs → MP.R (Option D)) (xs zs : List D) (h' : Hs) (p : Addr) (i m : Nat) (H : Hp) : Prop :=
  ∃ (r1 : RC) (acc : List V) (z0 z1 : List D), r1.H = H ∧ Ext r r1 ∧ Rep r1 ∧ r1.pv p ∧ H p = some (.lst acc) ∧ RVs r1 z0 acc ∧ mapR src f (xs.drop i) r1.ns = .ok z1 h' ∧ z0 ++ z1 = zs ∧ z0.length ≤ i ∧ i ≤ xs.length ∧ m = xs.length - i
theorem bind_ok {α β : Type} {x : MP.R α} {f : α → Hs → MP.R β} {b : β} {h : Hs} (e : x.bind f = .ok b h) : ∃ a h1, x = .ok a h1 ∧ f a h1 = .ok b h := by
  cases x with
  | ok a h1 => exact ⟨a, h1, rfl, e⟩
  | exc c fs h1 => cases e
  | bad => cases e
theorem ite_ok {c : Prop} [Decidable c] {α : Type} {x : MP.R α} {b : α} {h : Hs} (e : (if c then x else .bad) = .ok b h) : c ∧ x = .ok b h := by
  by_cases hc : c
  · rw [if_pos hc] at e; exact ⟨hc, e⟩
  · rw [if_neg hc] at e; cases e
theorem Good.to {α β : Type} {rel : RC → α → β → Prop} {r : RC} {σ : St} {Q : β → Hp → Prop} {W : WX} {x : MP.R α} {a : α} {h : Hs} (e : x = .ok a h) (q : ∀ r' b, r'.ns = h → Ext r r' → Rep r' → rel r' a b → Q b r'.H) : Good ec rel r σ Q W x := by
  subst e
  exact q
abbrev lcG (X : Cx) (scope : Scope) (tg : Expr) : TG := fun v σ H Q => ∀ s H0 Ca cl fp, GM (blkX X scope s H0 Ca cl fp) tg v σ H Q
abbrev lcT (X : Cx) (scope : Scope) (ifs : List Expr) : TT := fun σ H Q => ∀ s H0 Ca cl fp, CTM (blkX X scope s H0 Ca cl fp) ifs σ H Q
abbrev lcE (X : Cx) (scope : Scope) (elt : Expr) : TE := fun σ H Q => ∀ s H0 Ca cl fp, TM (blkX X scope s H0 Ca cl fp) elt σ H Q
theorem lc_read (g0 : XG cf G C ec k B N sc X) {t : T} {mi : I} {mcs : Option E} {nd : Bool} (hc : cf.calm = true) (hb : L2.blkC N sc scope (ownP N scope) = true) (hix : ∀ i ∈ tIx t, i ∈ (ownP N scope).map Prod.snd) (hfold : ∀ x, foldedSetIterable iter X.env x = pure x)
    (hi : SndI G C ec B X tg iter mi)
    (hg : ∀ s H Ca cl fp, SndG (blkX X scope s H Ca cl fp) tg t) (hcs : ∀ s H Ca cl fp, SndC G C ec B (blkX X scope s H Ca cl fp) ifs mcs) (he : ∀ s H Ca cl fp, SndE G C ec B (blkX X scope s H Ca cl fp) elt me) :
    ∀ {W : WX}, Takes X W → ∀ {σ : St} {r : RC} {sl : Sl} {Q : VK}, r.B = B → Rep r → RS r sl σ → GV ec r σ Q W (evE G C (.lc ((ownP N scope).map Prod.snd) t mi mcs me nd) sl r.ns) → tLc (IM X tg iter) (lcG X scope tg) (lcT X scope ifs) (lcE X scope elt) ((ownP N scope).map (fun x => x.2)) σ r.H Q := by
  intro W tk σ r sl Q eB R S g
  obtain ⟨hcm, hr, hxa⟩ := g0.calm hc
  simp only [evE] at g
  refine hi tk eB R S (g.step fun xs h1 r1 J _ n1 e1 R1 jt g1 => ?_)
  subst n1
  obtain ⟨hlim, g1⟩ := Good.ite g1
  have hz : ∃ zs h', mapR xs.2 (lcF G C ((ownP N scope).map Prod.snd) t mcs me sl) xs.1 r1.ns = .ok zs h' ∧ GV ec r1 σ Q W (lstOf nd zs h') := by
    have g1 : GV ec r1 σ Q W ((mapR xs.2 (lcF G C ((ownP N scope).map Prod.snd) t mcs me sl) xs.1 r1.ns).nox.bind fun ys h => lstOf nd ys h) := g1
    cases e : mapR xs.2 (lcF G C ((ownP N scope).map Prod.snd) t mcs me sl) xs.1 r1.ns with
    | ok zs h' => rw [e] at g1; exact ⟨zs, h', rfl, g1⟩
    | exc c fs h => rw [e] at g1; exact False.elim g1
    | bad => rw [e] at g1; exact False.elim g1
  obtain ⟨zs, h', hm, g2⟩ := hz
  have S1 := S.ext R e1
  have eB1 : r1.B = B := e1.B.trans eB
  intro p hp
  refine ⟨LcW r1 xs.2 (lcF G C ((ownP N scope).map Prod.snd) t mcs me sl) xs.1 zs h' p, ⟨xs.1.length, r1.priv p [], [], [], zs, rfl, (R1.priv hp).1, (R1.priv hp).2, .inr rfl, upd_same, RVs.nil, hm, rfl, Nat.le_refl _, Nat.zero_le _, rfl⟩, fun i m H ⟨r2, acc, z0, z1, eH, e2, R2, pv2, hacc, hz0, hm2, hzz, hl0, hil, em⟩ => ?_⟩
  subst eH
  have hpr : ¬ r1.pv p := fun z => by
    obtain ⟨ws, q⟩ := R1.pvs p z
    rw [hp] at q; cases q
  have hall : ∀ xs1, xs.1.drop i = xs1 → (xs1 = [] ∨ ∃ x, xs.1[i]? = some x ∧ xs1 = x :: xs.1.drop (i + 1)) := fun xs1 hx => by
    by_cases hi2 : i < xs.1.length
    · exact .inr ⟨xs.1[i], List.getElem?_eq_getElem hi2, by rw [← hx, List.drop_eq_getElem_cons hi2]⟩
    · exact .inl (by rw [← hx]; exact List.drop_eq_nil_of_le (by omega))
  rcases hall _ rfl with hd | ⟨x, hx, hd⟩
  · rw [hd] at hm2
    obtain ⟨hck, hm2⟩ := ite_ok hm2
    cases hm2
    rw [List.append_nil] at hzz
    subst hzz
    have hi2 : xs.1.length ≤ i := by
      have := congrArg List.length hd
      simp at this
      omega
    exact .inl ⟨(jt r2 e2 R2 hck i).2 hi2, adopt R1 e2 R2 hp pv2 hacc hz0 g2⟩
  · rw [hd] at hm2
    obtain ⟨hck, hm2⟩ := ite_ok hm2
    obtain ⟨o, h2, hf, hm3⟩ := bind_ok hm2
    obtain ⟨ys, h3, hrest, hm4⟩ := bind_ok hm3
    clear hm2 hm3
    have il : i < xs.1.length := get_lt hx
    obtain ⟨jg, jy⟩ := (jt r2 e2 R2 hck i).1 x hx
    refine .inr ⟨jg, LcW r1 xs.2 (lcF G C ((ownP N scope).map Prod.snd) t mcs me sl) xs.1 zs h' p (i + 1) (m - 1), fun H' hW => ⟨m - 1, by omega, hW⟩, fun v H' hy s0 H0 Ca cl fp => ?_⟩
    obtain ⟨r3, eH, e3, R3, n3, rv⟩ := jy v H' hy
    subst eH
    have e13 := e2.trans e3
    have eB3 : r3.B = B := e13.B.trans eB1
    have S3 := (S1.ext R1 e13).wipe ((ownP N scope).map Prod.snd)
    rw [← n3] at hf
    unfold lcF at hf
    obtain ⟨sl2, h4, hf1, hf⟩ := bind_ok hf
    cases ha : asgT r3.ns t x (wipeS sl ((ownP N scope).map Prod.snd)) with
    | none => rw [ha] at hf1; cases hf1
    | some sl2' =>
      rw [ha] at hf1
      cases hf1
      refine hg s0 H0 Ca cl fp (by rw [eB3]; exact g0.eK.symm) R3 rv S3 ha fun σ2 S2 hw => ⟨?_, fun s0 H0 Ca cl fp => ?_⟩
      · rw [hw _ hix, wipe_idem]
      · obtain ⟨ok, h5, hf2, hf⟩ := bind_ok hf
        refine hcs s0 H0 Ca cl fp takes0 eB3 R3 S2 (Good.to hf2 fun r4 b n4 e4 R4 eb => ?_)
        cases eb
        subst n4
        have e14 := e13.trans e4
        have pv4 : r4.pv p := e4.pv p (e3.pv p pv2)
        have hp4 : r4.H p = some (.lst acc) := by rw [e4.prv p (e3.pv p pv2), e3.prv p pv2]; exact hacc
        cases ok with
        | false =>
          cases hf
          cases hm4
          refine ⟨r4, acc, z0, _, rfl, e14, R4, pv4, hp4, RVs.ext R3 e4 (RVs.ext R2 e3 hz0), hrest, hzz, by omega, il, by omega⟩
        | true =>
          show ∀ s0 H0 Ca cl fp, TM (blkX X scope s0 H0 Ca cl fp) elt σ2 r4.H _
          intro s0 H0 Ca cl fp
          obtain ⟨y, h6, hf3, hf⟩ := bind_ok (show ((evE G C me sl2 r4.ns).bind fun y h => MP.R.ok (some y) h) = _ from hf)
          cases hf
          cases hm4
          refine he s0 H0 Ca cl fp takes0 (e4.B.trans eB3) R4 (S2.ext R3 e4) (Good.to hf3 fun r5 b n5 e5 R5 rb => ?_)
          subst n5
          have pv5 : r5.pv p := e5.pv p pv4
          have hp5 : r5.H p = some (.lst acc) := by rw [e5.prv p pv4]; exact hp4
          have hz5 := RVs.ext R4 e5 (RVs.ext R3 e4 (RVs.ext R2 e3 hz0))
          obtain ⟨e6, R6⟩ := R5.tick (vs := acc ++ [b]) pv5
          refine ⟨acc, hp5, ?_, { r5 with H := upd r5.H p (.lst (acc ++ [b])) }, acc ++ [b], z0 ++ [y], ys, rfl, (e14.trans e5).tick R5 hp hpr pv5, R6, pv5, upd_same, RVs.ext0 R5 e6 (hz5.append (RVs.cons rb RVs.nil)), hrest, ?_, ?_, il, by omega⟩
          · rw [← hz0.length]
            exact Nat.lt_of_le_of_lt (Nat.le_of_lt (Nat.lt_of_le_of_lt hl0 il)) (lt_line hlim)
          · rw [List.append_assoc]; exact hzz
          · rw [List.length_append]; simp; omega
theorem lc_pg : ∀ s H0 Ca cl fp, PG (blkX X scope s H0 Ca cl fp) tg (lcG X scope tg) := fun s H0 Ca cl fp => ⟨fun pins s1 σ H v u Q I rv h => h s H0 Ca cl fp pins s1 u I rv⟩
theorem lc_pt : ∀ s H0 Ca cl fp, PTs (blkX X scope s H0 Ca cl fp) ifs (lcT X scope ifs) := fun s H0 Ca cl fp => ⟨fun pins s1 σ H Q I h => h s H0 Ca cl fp pins s1 I⟩
theorem lc_pe : ∀ s H0 Ca cl fp, PE (blkX X scope s H0 Ca cl fp) elt (lcE X scope elt) := fun s H0 Ca cl fp => ⟨fun pins s1 σ H Q I h => h s H0 Ca cl fp pins s1 I⟩
theorem snd_lc (g0 : XG cf G C ec k B N sc X) {t : T} {mi : I} {mcs : Option E} {nd : Bool} (hc : cf.calm = true) (hb : L2.blkC N sc scope (ownP N scope) = true) (hix : ∀ i ∈ tIx t, i ∈ (ownP N scope).map Prod.snd) (hfold : ∀ x, foldedSetIterable iter X.env x = pure x)
    (hi : SndI G C ec B X tg iter mi)
    (hg : ∀ s H Ca cl fp, SndG (blkX X scope s H Ca cl fp) tg t) (hcs : ∀ s H Ca cl fp, SndC G C ec B (blkX X scope s H Ca cl fp) ifs mcs) (he : ∀ s H Ca cl fp, SndE G C ec B (blkX X scope s H Ca cl fp) elt me) :
    SndE G C ec B X (.ListComp elt [{ target := tg, iter := iter, ifs := ifs, is_async := 0 }] scope pos) (.lc ((ownP N scope).map Prod.snd) t mi mcs me nd) ∧
    ∀ {W : WX}, Takes X W → ∀ {i : Nat} {y : Str} {py spos : Pos} {σ : St} {r : RC} {sl : Sl} {D : Ends}, N[i]? = some y → X.env.scope.names.lookup y = some .local → swapsWith (.ListComp elt [{ target := tg, iter := iter, ifs := ifs, is_async := 0 }] scope pos) (some (.Name y py)) spos.line X.env = pure true → r.B = B → Rep r → RS r sl σ →
      GV ec r σ (fun v H => D.nx (σ.set i (some v)) H) W (evE G C (.lc ((ownP N scope).map Prod.snd) t mi mcs me nd) sl r.ns) → ∀ (pins : List (Addr × Obj)) (s : Shared), Inv X pins σ r.H s → wpAny (model X.prog X.w) X.A (exec (.Assign [.Name y py] (.ListComp elt [{ target := tg, iter := iter, ifs := ifs, is_async := 0 }] scope pos) spos) X.env) (SP X pins D) X.xe s := by
  have bok : BlkOk X.N X.env.scope scope (ownP N scope) := by rw [g0.eN, g0.eS]; exact blkOk_by hb
  have hnd : X.N.Nodup := by rw [g0.eN]; exact g0.nd
  refine ⟨fun W tk σ r sl Q eB R S g => TM.of (pe_lc (g0.calm hc).1 hnd pi_im bok lc_pg lc_pt lc_pe hfold) (lc_read g0 hc hb hix hfold hi hg hcs he tk eB R S g), ?_⟩
  intro W tk i y py spos σ r sl D hy hl hs eB R S g pins s I
  exact (ps_setLc (g0.calm hc).1 hnd (by rw [g0.eN]; exact hy) hl hs pi_im bok lc_pg lc_pt lc_pe hfold).run pins s σ r.H D I (lc_read g0 hc hb hix hfold hi hg hcs he tk eB R S g)
end
end L2.MP
/-! MpE9: the translator's expressions, all. -/
namespace L2.MP
open PySem PySem.Spec PyProof.Rows
section
variable {cf : Cf} {G : Gl} {C : Nat → List D → Hs → MP.R D} {ec : EC} {k n : Nat} {B : RB} {N : List Str} {sc scope : Scope} {X : Cx} {e a b c tg iter elt : Expr} {es ifs : List Expr} {m ma mb mc mo me : E} {ms : List E} {pos p2 p : Pos}
theorem tr_star (h : trE cf n N sc e = some m) (es : List Expr) (env : Env) : starEach (e :: es) env = (false, eval e env) :: starEach es env := by
  cases e <;> first | rfl | skip
  cases n with
  | zero => cases h
  | succ n => unfold trE at h; cases h
theorem tr_stars : ∀ {n : Nat} {es : List Expr} {ms : List E}, trEs cf n N sc es = some ms → ∀ env, ∀ q ∈ starEach es env, q.1 = false
  | 0, _, _, h, _ => by cases h
  | n + 1, [], _, h, _ => fun q hq => nomatch hq
  | n + 1, e :: es, ms, h, env => by
    unfold trEs at h
    obtain ⟨a, h1, h⟩ := of_bind h
    obtain ⟨r, h2, h⟩ := of_bind h
    rw [tr_star h1]
    intro q hq
    rcases List.mem_cons.mp hq with rfl | hq
    · rfl
    · exact tr_stars h2 env q hq
theorem back_any {es : List Expr} {env : Env} (h : ∀ q ∈ starEach es env, q.1 = false) : (backTo pos (starEach es env)).any (·.1) = false := by
  unfold backTo
  rw [List.any_map]
  exact List.any_eq_false.mpr fun q hq => by simp [h q hq]
theorem back_all {es : List Expr} {env : Env} (h : ∀ q ∈ starEach es env, q.1 = false) : (List.all (backTo pos (starEach es env)) fun x => !Prod.fst x) = true := by
  unfold backTo
  rw [List.all_map]
  exact List.all_eq_true.mpr fun q hq => by simp [h q hq]
theorem tr_base (h : trE cf n N sc e = some m) (name : Str) (env : Env) : attributeBase e name env (eval e env) = eval e env := by
  cases e <;> first | rfl | skip
  rename_i f args kws pos
  cases f <;> first | rfl | skip
  cases args <;> first | rfl | skip
  cases kws <;> first | rfl | skip
  cases n with
  | zero => cases h
  | succ n =>
    unfold trE at h
    simp only [List.isEmpty_nil, List.isEmpty_cons, Bool.not_true, Bool.and_false, Bool.false_and, Bool.false_eq_true, if_false] at h
    repeat' split at h
    all_goals cases h
theorem tr_mark (h : trE cf n N sc e = some m) (op : CmpOp) : behindInMarks op e = false := by
  cases e <;> first | rfl | skip
  cases n with
  | zero => cases h
  | succ n => unfold trE at h; cases h
theorem tr_fold (h : ∀ a b c, e ≠ .Set a b c) (env : Env) (x : Value) : foldedSetIterable e env x = pure x := by
  cases e <;> first | rfl | skip
  exact absurd rfl (h _ _ _)
theorem tr_noset (h : trE cf n N sc e = some m) (a b c) : e ≠ .Set a b c := fun z => by
  subst z
  cases n with
  | zero => cases h
  | succ n => unfold trE at h; cases h
theorem trEs_len : ∀ {n : Nat} {es : List Expr} {ms : List E}, trEs cf n N sc es = some ms → ms.length = es.length
  | 0, _, _, h => by cases h
  | n + 1, [], _, h => by unfold trEs at h; cases h; rfl
  | n + 1, e :: es, ms, h => by
    unfold trEs at h
    obtain ⟨a, h1, h⟩ := of_bind h
    obtain ⟨r, h2, h⟩ := of_bind h
    cases h
    simp [trEs_len h2]
theorem noFns_mem : ∀ {cs : List Expr}, noFns cf cs = true → ∀ x q, Expr.Name x q ∈ cs → ixOf cf.fns x = none
  | [], _, _, _, h => nomatch h
  | c :: cs, h, x, q, hm => by
    rcases List.mem_cons.mp hm with rfl | hm
    · simp only [noFns, Bool.and_eq_true, Option.isNone_iff_eq_none] at h
      exact h.1
    · refine noFns_mem ?_ x q hm
      cases c <;> first | exact h | (simp only [noFns, Bool.and_eq_true] at h; exact h.2)
/-- y = [..], the names of the list swapped with its own -/
def AsgLc (G : Gl) (C : Nat → List D → Hs → MP.R D) (ec : EC) (B : RB) (N : List Str) (X : Cx) (a : Expr) (m : E) : Prop :=
    ∀ {W : WX}, Takes X W → ∀ {i : Nat} {y : Str} {py spos : Pos} {σ : St} {r : RC} {sl : Sl} {D : Ends}, N[i]? = some y → X.env.scope.names.lookup y = some .local → swapsWith a (some (.Name y py)) spos.line X.env = pure true → r.B = B → Rep r → RS r sl σ →
      GV ec r σ (fun v H => D.nx (σ.set i (some v)) H) W (evE G C m sl r.ns) → ∀ (pins : List (Addr × Obj)) (s : Shared), Inv X pins σ r.H s → wpAny (model X.prog X.w) X.A (exec (.Assign [.Name y py] a spos) X.env) (SP X pins D) X.xe s
structure SndAll (cf : Cf) (G : Gl) (C : Nat → List D → Hs → MP.R D) (ec : EC) (k : Nat) (N : List Str) (n : Nat) (B : RB) (sc : Scope) (X : Cx) : Prop where
  e : ∀ {e m}, trE cf n N sc e = some m → SndE G C ec B X e m ∧ SndT G C ec B X e m
  b : ∀ {op es m}, trB cf n N sc op es = some m → ∀ pos, SndE G C ec B X (.BoolOp op es pos) m ∧ SndW G C ec B X (.BoolOp op es pos) m
  es : ∀ {es ms}, trEs cf n N sc es = some ms → SndA G C ec B X es ms
  o : ∀ {e m}, trO cf n N sc e = some m → SndO G C ec B X e m
  l : ∀ {elt0 g1 sc2 p0 m}, trE cf n N sc (.ListComp elt0 [g1] sc2 p0) = some m → AsgLc G C ec B N X (.ListComp elt0 [g1] sc2 p0) m
  i : ∀ {e mi tg}, trI cf n N sc e = some mi → tgOk mi tg = true → SndI G C ec B X tg e mi ∧ ∀ a b c, e ≠ .Set a b c
theorem mt_snd (g0 : XG cf G C ec k B N sc X) {mm : MT} {name : Str} {nd : Bool} (hm : mt? nd name = some mm) (he : starEach (e :: es) X.env = (false, eval e X.env) :: starEach es X.env) (hst : ∀ q ∈ starEach (e :: es) X.env, q.1 = false) (hln : (e :: es).length < 20) (hl : (Pos.endLine p == Pos.line pos) = true)
    (hb : attributeBase a name X.env (eval a X.env) = eval a X.env) (ha : SndE G C ec B X a ma) (hs : SndA G C ec B X (e :: es) ms) : SndE G C ec B X (.Call (.Attribute a name p) (e :: es) [] pos) (.mt mm ma ms) := by
  have hp : (backTo pos (starEach es X.env)).any (·.1) = false := back_any fun q hq => hst q (by rw [he]; exact List.mem_cons_of_mem _ hq)
  have hf : ((((List.all (backTo pos (starEach (e :: es) X.env)) fun x => !Prod.fst x) && List.all (backToKw pos (keywordEach [] X.env)) fun x => Option.isSome (Prod.fst x)) &&
      decide ((List.length (e :: es) + List.length ([] : List Keyword) + if List.isEmpty ([] : List Keyword) = true then 0 else 1) < 30)) = true) := by
    rw [back_all hst, Bool.true_and, Bool.and_eq_true]
    refine ⟨rfl, decide_eq_true ?_⟩
    simp only [List.length_nil, List.isEmpty_nil, if_true]
    omega
  have eK : ∀ r : RC, r.B = B → X.K = r.B.K := fun r eB => by rw [g0.eK, eB]
  unfold mt? at hm
  split at hm
  · rename_i hn
    subst hn
    have hd : mm = .split ∨ mm = .splitN := by
      cases nd <;> cases hm <;> simp
    refine snd_mt_of PySem.F.plainAttrs_str PySem.F.slot_str_split PySem.F.type_str_split mt_split (fun r x v eB R h ht => ?_) (fun r x v xs vs σ Q W eB R h h2 ht g => ?_) hb hf hl he hp ha hs
    · rcases hd with rfl | rfl <;> (cases x <;> first | exact str_ty h rfl | (cases ht; done))
    · have hx : ∃ s c, x = .str s ∧ xs = [.str [c]] := by
        clear h h2
        rcases hd with rfl | rfl <;> clear ht
        all_goals
          cases x <;> first | exact False.elim g | skip
          rcases xs with _ | ⟨y, _ | ⟨z, zs⟩⟩ <;> first | exact False.elim g | skip
          · cases y <;> first | exact False.elim g | skip
            rename_i t
            rcases t with _ | ⟨c, _ | ⟨d, t⟩⟩ <;> first | exact False.elim g | skip
            exact ⟨_, _, rfl, rfl⟩
          · cases y <;> first | exact False.elim g | skip
            rename_i t
            rcases t with _ | ⟨c, _ | ⟨d, t⟩⟩ <;> exact False.elim g
      obtain ⟨s, c, rfl, rfl⟩ := hx
      obtain ⟨w, rfl, hw⟩ := RVs.single h2
      obtain ⟨rfl, o1⟩ := rv_str h
      obtain ⟨rfl, o2⟩ := rv_str hw
      have g2 : (c < 256 ∧ s.length + 2 ≤ lim) ∧ ∃ nd', GV ec r σ Q W (lstOf nd' ((splitL c s).map .str) r.ns) := by
        rcases hd with rfl | rfl
        · simp only [mtD] at g
          obtain ⟨hz, g⟩ := Good.ite g
          exact ⟨hz, false, g⟩
        · simp only [mtD] at g
          obtain ⟨hz, g⟩ := Good.ite g
          exact ⟨hz, true, g⟩
      obtain ⟨hz, nd', g⟩ := g2
      refine ⟨_, _, rfl, rfl, rfl, by rw [len_str]; exact le_line hz.2, fun p hp => ?_⟩
      show Q (.ref p) (upd r.H p (.lst ((Txt.split (SX.S s) (SX.S [c])).map V.str)))
      rw [split_ok hz.1]
      exact mk_lstOf R (rvs_strs (ok_split o1)) g hp
  · split at hm
    · rename_i hn
      subst hn
      cases hm
      refine snd_mt_of PySem.F.plainAttrs_str PySem.F.slot_str_join PySem.F.type_str_join mt_join (fun r x v eB R h ht => ?_) (fun r x v xs vs σ Q W eB R h h2 ht g => ?_) hb hf hl he hp ha hs
      · cases x <;> first | exact str_ty h rfl | (cases ht; done)
      · have hx : ∃ s y, x = .str s ∧ xs = [y] := by
          clear h h2 ht
          cases x <;> first | exact False.elim g | skip
          rcases xs with _ | ⟨y, _ | ⟨z, zs⟩⟩ <;> first | exact False.elim g | skip
          exact ⟨_, _, rfl, rfl⟩
        obtain ⟨s, y, rfl, rfl⟩ := hx
        obtain ⟨w, rfl, hw⟩ := RVs.single h2
        obtain ⟨rfl, o1⟩ := rv_str h
        simp only [mtD] at g
        obtain ⟨ws, hws, g⟩ := Good.of g
        obtain ⟨hz, g⟩ := Good.ite g
        obtain ⟨ys, hy, hb⟩ := Option.bind_eq_some_iff.mp hws
        obtain ⟨ad, us, rfl, p1, p2⟩ := seqV_inv R hy hw
        obtain ⟨e1, o2⟩ := strs_inv p2 hb
        rw [e1] at p1
        refine ⟨_, ad, ws.map SX.S, rfl, rfl, by rw [eK r eB]; exact p1, ?_, ?_⟩
        · have := join_len s ws
          simp only [List.map_map, List.length_map, len_str]
          have e2 : (List.map ((fun x : Str => x.length) ∘ SX.S) ws) = ws.map List.length := by
            apply List.map_congr_left
            intro t _
            exact len_str t
          rw [e2]
          have hz2 : (16777216 : Nat) ≥ lim := by decide
          omega
        · have ow : okS (joinL s ws) := ok_join o1 o2
          have ej : Txt.join (SX.S s) (ws.map SX.S) = SX.S (joinL s ws) := by rw [SX.join_S, join_eqL]
          show Q (.str (Txt.join (SX.S s) (ws.map SX.S))) r.H
          rw [ej]
          exact done R g (mk_str ow)
    · split at hm
      · rename_i hn
        subst hn
        cases hm
        refine snd_mt_of PySem.F.plainAttrs_str PySem.F.slot_str_partition PySem.F.type_str_partition mt_partition (fun r x v eB R h ht => ?_) (fun r x v xs vs σ Q W eB R h h2 ht g => part_run R h h2 g) hb hf hl he hp ha hs
        cases x <;> first | exact str_ty h rfl | (cases ht; done)
      · split at hm
        · rename_i hn
          subst hn
          cases hm
          refine snd_mt_of PySem.F.plainAttrs_list PySem.F.slot_list_append PySem.F.type_list_append mt_append (fun r x v eB R h ht => ?_) (fun r x v xs vs σ Q W eB R h h2 ht g => app_run R h h2 g) hb hf hl he hp ha hs
          cases x <;> first | (cases ht; done) | skip
          rename_i i
          simp only [RV] at h
          obtain ⟨hi, rfl⟩ := h
          obtain ⟨nd, hnd⟩ : ∃ nd, r.ns[i]? = some nd := ⟨_, List.getElem?_eq_getElem hi⟩
          cases nd with
          | lst ys =>
            obtain ⟨us, h1, _⟩ := R.nod i _ hnd
            exact .inl ⟨rfl, us, SqL.of h1⟩
        · cases hm
theorem snd_all : ∀ (n : Nat) {B : RB} {sc : Scope} {X : Cx}, XG cf G C ec k B N sc X → SndAll cf G C ec k N n B sc X
  | 0, B, sc, X, g0 => ⟨(fun h => nomatch h), (fun h => nomatch h), (fun h => nomatch h), (fun h => nomatch h), (fun h => nomatch h), (fun h => nomatch h)⟩
  | n + 1, B, sc, X, g0 => by
    have ih := snd_all n g0
    have hlc : ∀ {elt0 : Expr} {g1 : Comprehension} {sc2 : Scope} {p0 : Pos} {m : E}, trE cf (n + 1) N sc (.ListComp elt0 [g1] sc2 p0) = some m → SndE G C ec B X (.ListComp elt0 [g1] sc2 p0) m ∧ AsgLc G C ec B N X (.ListComp elt0 [g1] sc2 p0) m := fun {elt0 g1 sc2 p0 m} h => by
      unfold trE at h
      obtain ⟨it, h1, h⟩ := of_bind h
      obtain ⟨t, h2, h⟩ := of_bind h
      obtain ⟨mc, h3, h⟩ := of_bind h
      obtain ⟨me, h4, h⟩ := of_bind h
      split at h
      · rename_i hk
        cases h
        simp only [Bool.and_eq_true, List.all_eq_true, List.contains_iff_mem] at hk
        obtain ⟨⟨⟨⟨hcm, htg⟩, hsy⟩, hix⟩, hbl⟩ := hk
        obtain ⟨tg1, it1, ifs1, as1⟩ := g1
        obtain rfl : as1 = 0 := eq_of_beq hsy
        have bx := fun s H Ca cl fp => blk_xg (scope := sc2) g0 hcm s H Ca cl fp
        obtain ⟨q1, q2⟩ := ih.i (tg := tg1) h1 htg
        have q := snd_lc (nd := hasP cf.nds p0) (pos := p0) (elt := elt0) (ifs := ifs1) (me := me) (mcs := mc) g0 hcm hbl (fun i hi => by simpa using hix i hi) (tr_fold q2 X.env) q1
          (fun s H Ca cl fp => trT_snd (bx s H Ca cl fp).ok.nd g0.eN (g0.calm hcm).1 (blk_tg s H Ca cl fp) n tg1 t false h2)
          (fun s H Ca cl fp => by
            cases ifs1 with
            | nil => cases h3; exact sndC_none
            | cons c0 cs =>
              cases cs with
              | nil =>
                obtain ⟨c1, h5, rfl⟩ := Option.map_eq_some_iff.mp h3
                exact sndC_some ((snd_all n (bx s H Ca cl fp)).e h5).2
              | cons c1 cs => cases h3)
          (fun s H Ca cl fp => ((snd_all n (bx s H Ca cl fp)).e h4).1)
        exact q
      · cases h
    have he : ∀ {e m}, trE cf (n + 1) N sc e = some m → SndE G C ec B X e m ∧ SndT G C ec B X e m := fun {e m} h => by
      have h0 := h
      unfold trE at h
      split at h
      · obtain ⟨d, h1, rfl⟩ := Option.map_eq_some_iff.mp h
        have q := snd_cst (G := G) (C := C) (ec := ec) (B := B) (X := X) (pos := ‹Pos›) (j := ‹Nat›) h1
        exact ⟨q, snt_plain g0 (fun _ => rfl) q⟩
      · split at h
        · rename_i i hi
          cases h
          have q := snd_var (C := C) (pos := ‹Pos›) g0 hi
          exact ⟨q, snt_plain g0 (fun _ => rfl) q⟩
        · split at h
          · rename_i hg
            obtain ⟨i, h1, rfl⟩ := Option.map_eq_some_iff.mp h
            have q := snd_glb (C := C) (pos := ‹Pos›) g0 hg h1
            exact ⟨q, snt_plain g0 (fun _ => rfl) q⟩
          · cases h
      · obtain ⟨a, h1, h⟩ := of_bind h
        obtain ⟨b, h2, h⟩ := of_bind h
        cases h
        have q := snd_bin (pos := ‹Pos›) (op := ‹Operator›) g0 (ih.e h1).1 (ih.e h2).1
        exact ⟨q, snt_plain g0 (fun _ => rfl) q⟩
      · obtain ⟨a, h1, rfl⟩ := Option.map_eq_some_iff.mp h
        have q := snd_neg (pos := ‹Pos›) (ih.e h1).1
        exact ⟨q, snt_plain g0 (fun _ => rfl) q⟩
      · obtain ⟨a, h1, rfl⟩ := Option.map_eq_some_iff.mp h
        exact ⟨snd_not g0 (ih.e h1).1, snt_not (ih.e h1).2⟩
      · obtain ⟨q1, q2⟩ := ih.b h ‹Pos›
        exact ⟨q1, q2.t⟩
      · obtain ⟨a, h1, h⟩ := of_bind h
        obtain ⟨b, h2, h⟩ := of_bind h
        cases h
        exact ⟨snd_cmp g0 (tr_mark h2 _) (ih.e h1).1 (ih.e h2).1, snt_cmp g0 (tr_mark h2 _) (ih.e h1).1 (ih.e h2).1⟩
      · obtain ⟨a, h1, h⟩ := of_bind h
        obtain ⟨b, h2, h⟩ := of_bind h
        obtain ⟨c, h3, h⟩ := of_bind h
        cases h
        exact ⟨snd_chn g0 (tr_mark h3 _) (ih.e h1).1 (ih.e h2).1 (ih.e h3).1, snt_chn g0 (tr_mark h3 _) (ih.e h1).1 (ih.e h2).1 (ih.e h3).1⟩
      · obtain ⟨c, h1, h⟩ := of_bind h
        obtain ⟨a, h2, h⟩ := of_bind h
        obtain ⟨b, h3, h⟩ := of_bind h
        cases h
        exact ⟨snd_ifx (ih.e h1).2 (ih.e h2).1 (ih.e h3).1, snt_ifx (ih.e h1).2 (ih.e h2).2 (ih.e h3).2⟩
      · split at h
        · rename_i hl
          obtain ⟨ms, h1, rfl⟩ := Option.map_eq_some_iff.mp h
          have q := snd_tup (pos := ‹Pos›) (k1 := ‹Nat›) (by rw [trEs_len h1]; exact hl) (ih.es h1)
          exact ⟨q, snt_plain g0 (fun _ => rfl) q⟩
        · cases h
      · cases h
        have q := snd_emp (G := G) (C := C) (ec := ec) (B := B) (X := X) (pos := ‹Pos›)
        exact ⟨q, snt_plain g0 (fun _ => rfl) q⟩
      · split at h
        · rename_i hl
          obtain ⟨ms, h1, rfl⟩ := Option.map_eq_some_iff.mp h
          have q := snd_lst (pos := ‹Pos›) (nd := hasP cf.nds ‹Pos›) (by rw [trEs_len h1]; exact hl) (ih.es h1)
          exact ⟨q, snt_plain g0 (fun _ => rfl) q⟩
        · cases h
      · rename_i pos1 pos2
        obtain ⟨a, h1, h⟩ := of_bind h
        obtain ⟨lo, h2, h⟩ := of_bind h
        obtain ⟨hi, h3, h⟩ := of_bind h
        cases h
        have q := snd_sl (pos := pos2) (p2 := pos1) g0 (ih.e h1).1 (ih.o h2) (ih.o h3)
        exact ⟨q, snt_plain g0 (fun _ => rfl) q⟩
      · rename_i a0 i0 pos0 hns
        obtain ⟨a, h1, h⟩ := of_bind h
        obtain ⟨b, h2, h⟩ := of_bind h
        cases h
        have hp : PlainIx i0 := fun o i => by
          cases i0 with
          | Slice lo hi st pp =>
            cases st with
            | none => exact absurd rfl (hns lo hi pp)
            | some st => rfl
          | _ => rfl
        have q := snd_ix (pos := pos0) g0 hp (ih.e h1).1 (ih.e h2).1
        exact ⟨q, snt_plain g0 (fun _ => rfl) q⟩
      · rename_i elt0 g1 sc2 p0
        exact ⟨(hlc h0).1, snt_plain g0 (fun _ => rfl) (hlc h0).1⟩
      · rename_i x px es kws pos0
        split at h
        · rename_i hg
          split at h
          · rename_i f hf
            split at h
            · rename_i hk
              simp only [Bool.and_eq_true, List.isEmpty_iff, Bool.not_eq_true', List.isEmpty_eq_false_iff] at hk
              obtain ⟨⟨rfl, hcm⟩, hne⟩ := hk
              obtain ⟨ms, h1, rfl⟩ := Option.map_eq_some_iff.mp h
              cases es with
              | nil => exact absurd rfl hne
              | cons e1 es1 =>
                cases n with
                | zero => cases h1
                | succ n =>
                  have hst : starEach (e1 :: es1) X.env = (false, eval e1 X.env) :: starEach es1 X.env := by
                    have h2 := h1
                    unfold trEs at h2
                    obtain ⟨a, h3, _⟩ := of_bind h2
                    exact tr_star h3 _ _
                  have hb : (backTo pos0 (starEach es1 X.env)).any (·.1) = false := back_any fun q hq => tr_stars h1 X.env q (by rw [hst]; exact List.mem_cons_of_mem _ hq)
                  have q := snd_call (md := if hasP cf.roots pos0 then .root else if memS cf.raws x then .raw else .pure) (pos := pos0) (p := px) g0 hg hf hcm hst hb (ih.es h1)
                  exact ⟨q, snt_plain g0 (fun _ => rfl) q⟩
            · cases h
          · rename_i hf
            split at h
            · rename_i hk
              obtain ⟨rfl, hxx, hkw⟩ := hk
              rw [Option.isNone_iff_eq_none] at hxx
              rw [List.isEmpty_iff] at hkw
              subst hkw
              split at h
              · split at h
                · rename_i a0 c0 pc hfx
                  rw [Option.isNone_iff_eq_none] at hfx
                  obtain ⟨a1, h1, h⟩ := of_bind h
                  obtain ⟨t, h2, rfl⟩ := Option.map_eq_some_iff.mp h
                  have q := snd_isi1 (p := px) (p2 := pc) (pos := pos0) g0 hg hf hxx hfx h2 (tr_star h1 _ _) (ih.e h1).1
                  exact ⟨q, snt_plain g0 (fun _ => rfl) q⟩
                · cases h
              · split at h
                · rename_i a0 cs k1 pc hfx
                  simp only [Bool.and_eq_true, decide_eq_true_eq, Bool.not_eq_true', List.isEmpty_eq_false_iff] at hfx
                  obtain ⟨⟨hn, hl⟩, hne⟩ := hfx
                  obtain ⟨a1, h1, h⟩ := of_bind h
                  obtain ⟨ts, h2, rfl⟩ := Option.map_eq_some_iff.mp h
                  cases ts with
                  | nil =>
                    cases cs with
                    | nil => exact absurd rfl hne
                    | cons c cs =>
                      cases c <;> first | (cases h2; done) | skip
                      simp only [tys?] at h2
                      obtain ⟨_, _, h2⟩ := of_bind h2
                      obtain ⟨_, _, h2⟩ := of_bind h2
                      cases h2
                  | cons t0 ts =>
                    have q := snd_isiT (p := px) (p2 := pc) (pos := pos0) (k1 := k1) g0 hl hg hf hxx (noFns_mem hn) h2 (tr_star h1 _ _) (ih.e h1).1
                    exact ⟨q, snt_plain g0 (fun _ => rfl) q⟩
                · cases h
              · cases h
            · split at h
              · rename_i hk
                simp only [Bool.and_eq_true, List.isEmpty_iff, Bool.not_eq_true', List.isEmpty_eq_false_iff, Option.isNone_iff_eq_none] at hk
                obtain ⟨⟨rfl, hne⟩, hfx⟩ := hk
                obtain ⟨b1, h1, h⟩ := of_bind h
                split at h
                · rename_i hcm
                  obtain ⟨ms, h2, rfl⟩ := Option.map_eq_some_iff.mp h
                  cases es with
                  | nil => exact absurd rfl hne
                  | cons e1 es1 =>
                    cases n with
                    | zero => cases h2
                    | succ n =>
                      have hst : starEach (e1 :: es1) X.env = (false, eval e1 X.env) :: starEach es1 X.env := by
                        have h3 := h2
                        unfold trEs at h3
                        obtain ⟨a, h4, _⟩ := of_bind h3
                        exact tr_star h4 _ _
                      have hb : (backTo pos0 (starEach es1 X.env)).any (·.1) = false := back_any fun q hq => tr_stars h2 X.env q (by rw [hst]; exact List.mem_cons_of_mem _ hq)
                      have q := snd_bi (nd := hasP cf.nds pos0) (pos := pos0) (p := px) g0 hg hf hfx h1 hcm hst hb (ih.es h2)
                      exact ⟨q, snt_plain g0 (fun _ => rfl) q⟩
                · cases h
              · cases h
        · cases h
      · rename_i x0 q0 f0 p0
        obtain ⟨a1, h1, rfl⟩ := Option.map_eq_some_iff.mp h
        have q := snd_fld (pos := p0) (f := f0) g0 (tr_base h1 _ _) (ih.e h1).1
        exact ⟨q, snt_plain g0 (fun _ => rfl) q⟩
      · rename_i o0 mm ap es cp
        split at h
        · rename_i hk
          simp only [Bool.and_eq_true, decide_eq_true_eq, Bool.not_eq_true', List.isEmpty_eq_false_iff] at hk
          obtain ⟨⟨hl, hln⟩, hne⟩ := hk
          obtain ⟨m1, h1, h⟩ := of_bind h
          obtain ⟨o1, h2, h⟩ := of_bind h
          obtain ⟨ms, h3, rfl⟩ := Option.map_eq_some_iff.mp h
          cases es with
          | nil => exact absurd rfl hne
          | cons e1 es1 =>
            cases n with
            | zero => cases h3
            | succ n =>
              have hst : starEach (e1 :: es1) X.env = (false, eval e1 X.env) :: starEach es1 X.env := by
                have h4 := h3
                unfold trEs at h4
                obtain ⟨a, h5, _⟩ := of_bind h4
                exact tr_star h5 _ _
              have q := mt_snd g0 h1 hst (tr_stars h3 X.env) hln hl (tr_base h2 _ _) (ih.e h2).1 (ih.es h3)
              exact ⟨q, snt_plain g0 (fun _ => rfl) q⟩
        · cases h
      · cases h
    refine ⟨he, fun {op es m} h pos => ?_, fun {es ms} h => ?_, fun {e m} h => ?_, fun h => (hlc h).2, fun {e mi tg} h ht => ?_⟩
    · unfold trB at h
      split at h
      · cases h
      · exact ⟨snd_one (ih.e h).1, snw_one (ih.e h).2⟩
      · rename_i e0 es0 hne
        obtain ⟨a, h1, h⟩ := of_bind h
        obtain ⟨b, h2, h⟩ := of_bind h
        cases h
        obtain ⟨q1, q2⟩ := ih.b h2 pos
        cases es0 with
        | nil => exact absurd rfl hne
        | cons e1 es1 =>
          cases op with
          | And => exact ⟨snd_and g0 (ih.e h1).1 q1, snw_and (ih.e h1).2 q2⟩
          | Or => exact ⟨snd_or g0 (ih.e h1).1 q1, snw_or (ih.e h1).2 q2⟩
    · cases es with
      | nil =>
        unfold trEs at h
        cases h
        exact snd_a_nil
      | cons e1 es1 =>
        unfold trEs at h
        obtain ⟨a, h1, h⟩ := of_bind h
        obtain ⟨r, h2, h⟩ := of_bind h
        cases h
        exact snd_a_cons (tr_star h1 _ _) (ih.e h1).1 (ih.es h2)
    · cases e with
      | none =>
        unfold trO at h
        cases h
        exact snd_o_none
      | some e1 =>
        unfold trO at h
        obtain ⟨a, h1, rfl⟩ := Option.map_eq_some_iff.mp h
        exact snd_o_some (ih.e h1).1
    · unfold trI at h
      split at h
      · rename_i x px es kws pos0
        split at h
        · rename_i hk
          simp only [Bool.and_eq_true, Option.isNone_iff_eq_none] at hk
          obtain ⟨⟨⟨hg, hf⟩, hx⟩, _⟩ := hk
          refine ⟨?_, fun _ _ _ z => nomatch z⟩
          split at h
          · split at h
            · rename_i hxn
              subst hxn
              obtain ⟨a, h1, rfl⟩ := Option.map_eq_some_iff.mp h
              exact sni_rng1 g0 hg hf hx (tr_star h1 _ _) (ih.e h1).1
            · split at h
              · rename_i hxn
                subst hxn
                obtain ⟨a, h1, rfl⟩ := Option.map_eq_some_iff.mp h
                cases tg <;> first | (cases ht; done) | skip
                exact sni_enum g0 hg hf hx (tr_star h1 _ _) (ih.e h1).1
              · cases h
          · split at h
            · rename_i hxn
              subst hxn
              obtain ⟨a, h1, h⟩ := of_bind h
              obtain ⟨b, h2, rfl⟩ := Option.map_eq_some_iff.mp h
              exact sni_rng2 g0 hg hf hx (by rw [tr_star h1, tr_star h2]; rfl) (tr_star h2 _ _) (ih.e h1).1 (ih.e h2).1
            · cases h
          · cases h
        · obtain ⟨a, h1, rfl⟩ := Option.map_eq_some_iff.mp h
          exact ⟨sni_ex g0 (ih.e h1).1, tr_noset h1⟩
      · obtain ⟨a, h1, rfl⟩ := Option.map_eq_some_iff.mp h
        exact ⟨sni_ex g0 (ih.e h1).1, tr_noset h1⟩
end
end L2.MP
/-! MpS: statements. -/
namespace L2.MP
open PySem PySem.Spec PyProof.Rows
def SM (X : Cx) (st : Stmt) : TS := fun D σ H => ∀ (pins : List (Addr × Obj)) (s : Shared), Inv X pins σ H s → wpAny (model X.prog X.w) X.A (exec st X.env) (SP X pins D) X.xe s
theorem ps_sm {X : Cx} {st : Stmt} : PS X st (SM X st) := ⟨fun pins s _ _ _ I h => h pins s I⟩
theorem SM.of {X : Cx} {st : Stmt} {t : TS} {D : Ends} {σ : St} {H : Hp} (h : PS X st t) (q : t D σ H) : SM X st D σ H := fun pins s I => h.run pins s σ H D I q
def SMs (X : Cx) (st : List Stmt) : TS := fun D σ H => ∀ (pins : List (Addr × Obj)) (s : Shared), Inv X pins σ H s → wpAny (model X.prog X.w) X.A (execs st X.env) (SP X pins D) X.xe s
theorem pss_sms {X : Cx} {st : List Stmt} : PSs X st (SMs X st) := ⟨fun pins s _ _ _ I h => h pins s I⟩
theorem SMs.of {X : Cx} {st : List Stmt} {t : TS} {D : Ends} {σ : St} {H : Hp} (h : PSs X st t) (q : t D σ H) : SMs X st D σ H := fun pins s I => h.run pins s σ H D I q

/-- what must follow a statement's end -/
def GQ (ec : EC) (r : RC) (D : Ends) (W : WX) : MP.Q → Prop
  | .ok .nx sl h => ∀ r' σ', r'.ns = h → Ext r r' → Rep r' → RS r' sl σ' → D.nx σ' r'.H
  | .ok (.rt d) sl h => ∀ r' v, r'.ns = h → Ext r r' → Rep r' → RV r' d v → D.rt v r'.H
  | .ok .bk sl h => ∀ r' σ', r'.ns = h → Ext r r' → Rep r' → RS r' sl σ' → D.bk σ' r'.H
  | .ok .ct sl h => ∀ r' σ', r'.ns = h → Ext r r' → Rep r' → RS r' sl σ' → D.ct σ' r'.H
  | .exc c fs sl h => ∀ r' σ' d, r'.ns = h → Ext r r' → Rep r' → RS r' sl σ' → ExR r' c fs d → W (ec c) d σ' r'.H
  | .bad => False
section
variable {cf : Cf} {G : Gl} {C : Nat → List D → Hs → MP.R D} {ec : EC} {k n : Nat} {B : RB} {N : List Str} {sc scope : Scope} {X : Cx} {e a b c tg iter elt : Expr} {es ifs : List Expr} {m ma mb mc mo me : E} {ms : List E} {pos p2 p : Pos} {r r' : RC} {D0 : Ends} {W : WX} {σ : St} {sl : Sl}
theorem GQ.ext {q : MP.Q} (e : Ext r r') (g : GQ ec r D0 W q) : GQ ec r' D0 W q := by
  cases q with
  | ok f sl h => cases f <;> exact fun r2 s n e2 => g r2 s n (e.trans e2)
  | exc c fs sl h => exact fun r2 s d n e2 => g r2 s d n (e.trans e2)
  | bad => exact g
theorem GQ.step {α β : Type} {rel : RC → α → β → Prop} {Q : β → Hp → Prop} {x : MP.R α} {f : α → Hs → MP.Q} (R : Rep r) (S : RS r sl σ) (g : GQ ec r D0 W (x.q sl f))
    (kk : ∀ a h1 r1 b, x = .ok a h1 → r1.ns = h1 → Ext r r1 → Rep r1 → rel r1 a b → RS r1 sl σ → GQ ec r1 D0 W (f a h1) → Q b r1.H) : Good ec rel r σ Q W x := by
  cases x with
  | ok a h1 => exact fun r1 b n e R1 q => kk a h1 r1 b rfl n e R1 q (S.ext R e) (GQ.ext e g)
  | exc c fs h1 => exact fun r1 d n e R1 q => g r1 σ d n e R1 (S.ext R e) q
  | bad => exact g
theorem GQ.of {α : Type} {o : Option α} {f : α → Hs → MP.Q} {h : Hs} (g : GQ ec r D0 W ((MP.R.of o h).q sl f)) : ∃ a, o = some a ∧ GQ ec r D0 W (f a h) := by
  cases o with
  | none => exact False.elim g
  | some a => exact ⟨a, rfl, g⟩
theorem Rq_bind {α β : Type} (x : MP.R α) (g : α → Hs → MP.R β) (f : β → Hs → MP.Q) : (x.bind g).q sl f = x.q sl fun a h => (g a h).q sl f := by
  cases x <;> rfl
def SndS (G : Gl) (C : Nat → List D → Hs → MP.R D) (ec : EC) (B : RB) (X : Cx) (st : Stmt) (m : S) : Prop :=
  ∀ ⦃W : WX⦄, Takes X W → ∀ ⦃σ : St⦄ ⦃r : RC⦄ ⦃sl : Sl⦄ ⦃D0 : Ends⦄, r.B = B → Rep r → RS r sl σ → GQ ec r D0 W (evS G C m sl r.ns) → SM X st D0 σ r.H
def SndSs (G : Gl) (C : Nat → List D → Hs → MP.R D) (ec : EC) (B : RB) (X : Cx) (st : List Stmt) (m : List S) : Prop :=
  ∀ ⦃W : WX⦄, Takes X W → ∀ ⦃σ : St⦄ ⦃r : RC⦄ ⦃sl : Sl⦄ ⦃D0 : Ends⦄, r.B = B → Rep r → RS r sl σ → GQ ec r D0 W (evSs G C m sl r.ns) → SMs X st D0 σ r.H
theorem ss_nil : SndSs G C ec B X [] [] := by
  intro W tk σ r sl D0 eB R S g
  simp only [evSs] at g
  exact SMs.of pss_nil (g r σ rfl (Ext.refl r) R S)
theorem ss_cons {st : Stmt} {sts : List Stmt} {m : S} {ms : List S} (h1 : SndS G C ec B X st m) (h2 : SndSs G C ec B X sts ms) : SndSs G C ec B X (st :: sts) (m :: ms) := by
  intro W tk σ r sl D0 eB R S g
  simp only [evSs] at g
  refine SMs.of (pss_cons ps_sm pss_sms) (h1 tk eB R S ?_)
  cases e : evS G C m sl r.ns with
  | ok f sl1 h =>
    rw [e] at g
    cases f with
    | nx =>
      intro r1 σ1 n1 e1 R1 S1
      subst n1
      exact h2 tk (e1.B.trans eB) R1 S1 (GQ.ext e1 g)
    | rt d => exact g
    | bk => exact g
    | ct => exact g
  | exc c fs sl1 h => rw [e] at g; exact g
  | bad => rw [e] at g; exact g
theorem ss_pass : SndS G C ec B X (.Pass pos) .pass := by
  intro W tk σ r sl D0 eB R S g
  simp only [evS] at g
  exact SM.of ps_pass (g r σ rfl (Ext.refl r) R S)
theorem ss_doc {x : Str} {j : Nat} : SndS G C ec B X (.Expr (.Constant (.str x) j p) pos) .pass := by
  intro W tk σ r sl D0 eB R S g
  simp only [evS] at g
  exact SM.of ps_doc (g r σ rfl (Ext.refl r) R S)
theorem ss_brk : SndS G C ec B X (.Break pos) .brk := by
  intro W tk σ r sl D0 eB R S g
  simp only [evS] at g
  exact SM.of ps_break (g r σ rfl (Ext.refl r) R S)
theorem ss_cnt : SndS G C ec B X (.Continue pos) .cnt := by
  intro W tk σ r sl D0 eB R S g
  simp only [evS] at g
  exact SM.of ps_continue (g r σ rfl (Ext.refl r) R S)
theorem ss_retN : SndS G C ec B X (.Return none pos) (.ret none) := by
  intro W tk σ r sl D0 eB R S g
  simp only [evS] at g
  exact SM.of ps_retN (g r .non rfl (Ext.refl r) R mk_non)
theorem ss_ret (ha : SndE G C ec B X a ma) : SndS G C ec B X (.Return (some a) pos) (.ret (some ma)) := by
  intro W tk σ r sl D0 eB R S g
  simp only [evS] at g
  refine SM.of (ps_ret pe_tm) (ha tk eB R S (g.step R S fun x h1 r1 v1 _ n1 e1 R1 q1 S1 g1 => ?_))
  subst n1
  exact g1 r1 v1 rfl (Ext.refl r1) R1 q1
theorem ss_ex (hs : ∀ l, swapsWith a none l X.env = pure false) (ha : SndE G C ec B X a ma) : SndS G C ec B X (.Expr a pos) (.ex ma) := by
  intro W tk σ r sl D0 eB R S g
  simp only [evS] at g
  refine SM.of (ps_expr pe_tm (hs _)) (ha tk eB R S (g.step R S fun x h1 r1 v1 _ n1 e1 R1 q1 S1 g1 => ?_))
  subst n1
  exact g1 r1 σ rfl (Ext.refl r1) R1 S1
theorem ss_ite {x y : List Stmt} {mx my : List S} (hc : SndT G C ec B X c mc) (hx : SndSs G C ec B X x mx) (hy : SndSs G C ec B X y my) : SndS G C ec B X (.If c x y pos) (.ite mc mx my) := by
  intro W tk σ r sl D0 eB R S g
  have g : GQ ec r D0 W ((evT G C mc sl r.ns).q sl fun t h => if t then evSs G C mx sl h else evSs G C my sl h) := by
    unfold evT
    rw [Rq_bind]
    simpa only [evS] using g
  refine SM.of (ps_if pt_ttm pss_sms pss_sms) (hc tk eB R S (g.step R S fun t h1 r1 v1 _ n1 e1 R1 q1 S1 g1 => ?_))
  subst n1
  cases q1
  cases t with
  | true => exact hx tk (e1.B.trans eB) R1 S1 g1
  | false => exact hy tk (e1.B.trans eB) R1 S1 g1
/-- x = e -/
theorem ss_name {x : Str} {i : Nat} {px : Pos} (hN : X.N.Nodup) (hi : X.N[i]? = some x) (hl : L2.Loc X.env.scope x) (hf : X.fn x = true ∨ X.env.scope.names.lookup x = some .local) (hs : ∀ l, swapsWith a (some (.Name x px)) l X.env = pure false) (ha : SndE G C ec B X a ma) : SndS G C ec B X (.Assign [.Name x px] a pos) (.asg (.nm i) ma) := by
  intro W tk σ r sl D0 eB R S g
  simp only [evS] at g
  refine SM.of (ps_set (i := i) hN hi hl pe_tm (hs _) hf) (ha tk eB R S (g.step R S fun y h1 r1 v1 _ n1 e1 R1 q1 S1 g1 => ?_))
  subst n1
  obtain ⟨sl2, h2, g1⟩ := GQ.of g1
  simp only [asgT, Option.some.injEq] at h2
  subst h2
  exact g1 r1 _ rfl (Ext.refl r1) R1 (S1.set q1)
/-- a target of any other form = e -/
theorem ss_tup {t : T} {g0 : XG cf G C ec k B N sc X} (hs : ∀ l, swapsWithSole [tg] a l X.env = pure false) (hs2 : swappedStores [tg] a X.env = pure none) (hs3 : (assignEach [tg] X.env).map (·.2) = [assign tg X.env]) (hg : SndG X tg t) (ha : SndE G C ec B X a ma) : SndS G C ec B X (.Assign [tg] a pos) (.asg t ma) := by
  intro W tk σ r sl D0 eB R S g
  simp only [evS] at g
  refine SM.of (ps_asg pe_tm pg_gm (hs _) hs2 hs3) (ha tk eB R S (g.step R S fun y h1 r1 v1 _ n1 e1 R1 q1 S1 g1 => ?_))
  subst n1
  obtain ⟨sl2, h2, g1⟩ := GQ.of g1
  exact hg (by rw [e1.B, eB, g0.eK]) R1 q1 S1 h2 fun σ' S' _ => g1 r1 _ rfl (Ext.refl r1) R1 S'
theorem sto_run {r : RC} {D0 : Ends} {W : WX} {o i v : D} {vo vi vv : V} {sl : Sl} {σ : St} (R : Rep r) (S : RS r sl σ) (h1 : RV r o vo) (h2 : RV r i vi) (h3 : RV r v vv) (g : GQ ec r D0 W ((stoD o i v r.ns).q sl fun _ h => .ok .nx sl h)) : rSetL vo vi vv r.H fun H => D0.nx σ H := by
  unfold stoD at g
  split at g
  · rename_i a kk
    simp only [RV] at h1
    obtain ⟨hi, rfl⟩ := h1
    split at g
    · rename_i xs hx
      obtain ⟨us, p1, p2⟩ := R.nod a _ hx
      split at g
      · rename_i j hj
        obtain ⟨e', R'⟩ := R.put (vs := us.set j vv) hx (p2.set j h3)
        rw [rv_int h2]
        exact ⟨_, us, kk, j, rfl, rfl, p1, by rw [← p2.length]; exact hj, g (r.put a (us.set j vv) (xs.set j v)) σ rfl e' R' (S.ext R e')⟩
      · exact False.elim g
    · exact False.elim g
  · exact False.elim g
theorem ss_sto {o i : Expr} {mi : E} (hns : ∀ lo hi st p, i ≠ .Slice lo hi st p) (hs : ∀ l, swapsWithSole [.Subscript o i p] a l X.env = pure false) (hs2 : swappedStores [.Subscript o i p] a X.env = pure none) (ha : SndE G C ec B X a ma) (ho : SndE G C ec B X o mo) (hi : SndE G C ec B X i mi) : SndS G C ec B X (.Assign [.Subscript o i p] a pos) (.sto mo mi ma) := by
  intro W tk σ r sl D0 eB R S g
  simp only [evS] at g
  have hsub : ∀ v, assign (.Subscript o i p) X.env v = (do
      let ov ← holding [v] (eval o X.env)
      let iv ← holding [v, ov] (eval i X.env)
      standAt p
      holding [v, ov, iv] (setItem ov iv v)
      release [v, ov, iv] []) := fun v => by
    cases i with
    | Slice lo hh st pp => exact absurd rfl (hns lo hh st pp)
    | _ => rfl
  refine SM.of (ps_asg pe_tm (pg_sub pe_tm pe_tm set_list hsub) (hs _) hs2 rfl) (ha tk eB R S (g.step R S fun y h1 r1 v1 _ n1 e1 R1 q1 S1 g1 => ?_))
  subst n1
  refine ho tk (e1.B.trans eB) R1 S1 (g1.step R1 S1 fun y2 h2 r2 v2 _ n2 e2 R2 q2 S2 g2 => ?_)
  subst n2
  refine hi tk (e2.B.trans (e1.B.trans eB)) R2 S2 (g2.step R2 S2 fun y3 h3 r3 v3 _ n3 e3 R3 q3 S3 g3 => ?_)
  subst n3
  exact sto_run R3 S3 (RV.ext R2 e3 q2) q3 (RV.ext R2 e3 (RV.ext R1 e2 q1)) g3
end
end L2.MP
/-! MpS2: for, raise, try. -/
namespace L2.MP
open PySem PySem.Spec PyProof.Rows
section
variable {cf : Cf} {G : Gl} {C : Nat → List D → Hs → MP.R D} {ec : EC} {k n : Nat} {B : RB} {N : List Str} {sc scope : Scope} {X : Cx} {e a b c tg iter elt : Expr} {es ifs : List Expr} {m ma mb mc mo me : E} {ms : List E} {pos p2 p : Pos} {r r' : RC} {D0 : Ends} {W : WX} {σ : St} {sl : Sl}
theorem ss_for {t : T} {mi : I} {body : List Stmt} {mbody : List S} (g0 : XG cf G C ec k B N sc X) (hpo : PassesOwn (model X.prog X.w) X.A X.env X.xe) (hc : X.calm = true) (hfold : ∀ x, foldedSetIterable iter X.env x = pure x)
    (hi : SndI G C ec B X tg iter mi) (hg : SndG X tg t) (hb : SndSs G C ec B X body mbody) : SndS G C ec B X (.For tg iter body [] pos) (.for_ t mi mbody) := by
  intro W tk σ r sl D0 eB R S g
  simp only [evS] at g
  refine SM.of (ps_for hpo hc pi_im pg_gm pss_sms hfold) (hi tk eB R S (g.step R S fun xs h1 r1 J _ n1 e1 R1 jt S1 g1 => ?_))
  subst n1
  have eB1 : r1.B = B := e1.B.trans eB
  refine ⟨fun i m σ H => ∃ (r2 : RC) (sl2 : Sl), r2.H = H ∧ Ext r1 r2 ∧ Rep r2 ∧ RS r2 sl2 σ ∧ GQ ec r2 D0 W (forL xs.2 (fun x sl h => (MP.R.of (asgT h t x sl) h).q sl fun sl h => evSs G C mbody sl h) (xs.1.drop i) sl2 r2.ns) ∧ i ≤ xs.1.length ∧ m = xs.1.length - i,
    ⟨xs.1.length, r1, sl, rfl, Ext.refl r1, R1, S1, g1, Nat.zero_le _, rfl⟩, fun i m σ2 H ⟨r2, sl2, eH, e2, R2, S2, g2, hil, em⟩ => ?_⟩
  subst eH
  by_cases hi2 : i < xs.1.length
  · have hd : xs.1.drop i = xs.1[i] :: xs.1.drop (i + 1) := List.drop_eq_getElem_cons hi2
    have hx : xs.1[i]? = some xs.1[i] := List.getElem?_eq_getElem hi2
    rw [hd] at g2
    unfold forL at g2
    split at g2
    · rename_i hck
      obtain ⟨jg, jy⟩ := (jt r2 e2 R2 hck i).1 _ hx
      refine .inr ⟨jg, fun σ' H' => ∃ (r3 : RC) (sl3 : Sl), r3.H = H' ∧ Ext r1 r3 ∧ Rep r3 ∧ RS r3 sl3 σ' ∧ GQ ec r3 D0 W (forL xs.2 (fun x sl h => (MP.R.of (asgT h t x sl) h).q sl fun sl h => evSs G C mbody sl h) (xs.1.drop (i + 1)) sl3 r3.ns), fun σ' H' ⟨r3, sl3, q1, q2, q3, q4, q5⟩ => ⟨m - 1, by omega, r3, sl3, q1, q2, q3, q4, q5, hi2, by omega⟩, fun v H' hy => ?_⟩
      obtain ⟨r3, eH, e3, R3, n3, rv⟩ := jy v H' hy
      subst eH
      have S3 := S2.ext R2 e3
      rw [← n3] at g2
      cases ha : asgT r3.ns t xs.1[i] sl2 with
      | none => rw [ha] at g2; exact False.elim g2
      | some sl4 =>
        rw [ha] at g2
        refine hg (by rw [e3.B, e2.B, eB1, g0.eK]) R3 rv S3 ha fun σ4 S4 _ => hb tk (e3.B.trans (e2.B.trans eB1)) R3 S4 ?_
        have g3 := GQ.ext e3 g2
        have g3 : GQ ec r3 D0 W (match evSs G C mbody sl4 r3.ns with
          | .ok .nx sl h => forL xs.2 (fun x sl h => (MP.R.of (asgT h t x sl) h).q sl fun sl h => evSs G C mbody sl h) (xs.1.drop (i + 1)) sl h
          | .ok .ct sl h => forL xs.2 (fun x sl h => (MP.R.of (asgT h t x sl) h).q sl fun sl h => evSs G C mbody sl h) (xs.1.drop (i + 1)) sl h
          | .ok .bk sl h => .ok .nx sl h
          | q => q) := g3
        cases ev : evSs G C mbody sl4 r3.ns with
        | bad => rw [ev] at g3; exact g3
        | exc c fs sl5 h5 => rw [ev] at g3; exact g3
        | ok f sl5 h5 =>
          rw [ev] at g3
          cases f with
          | rt d => exact g3
          | bk => exact g3
          | nx =>
            intro r5 σ5 n5 e5 R5 S5
            subst n5
            exact ⟨r5, sl5, rfl, (e2.trans e3).trans e5, R5, S5, GQ.ext e5 g3⟩
          | ct =>
            intro r5 σ5 n5 e5 R5 S5
            subst n5
            exact ⟨r5, sl5, rfl, (e2.trans e3).trans e5, R5, S5, GQ.ext e5 g3⟩
    · exact False.elim g2
  · have hd : xs.1.drop i = [] := List.drop_eq_nil_of_le (by omega)
    rw [hd] at g2
    unfold forL at g2
    split at g2
    · rename_i hck
      exact .inl ⟨(jt r2 e2 R2 hck i).2 (by omega), g2 r2 σ2 rfl (Ext.refl r2) R2 S2⟩
    · exact False.elim g2
theorem ss_rais (g0 : XG cf G C ec k B N sc X) {x : Str} {c : Nat} {es : List Expr} {ms : List E} (hg : glo? sc x = true) (hx : ixOf cf.exs x = some c) (hc : cf.calm = true) (har : cf.ars[c]? = some (some es.length)) (hlen : ms.length = es.length) (ha : SndA G C ec B X es ms) (hst : ∀ q ∈ starEach es X.env, q.1 = false)
    (hs1 : ∀ e1 es1, es = e1 :: es1 → starEach (e1 :: es1) X.env = (false, eval e1 X.env) :: starEach es1 X.env) : SndS G C ec B X (.Raise (some (.Call (.Name x p) es [] p2)) none pos) (.rais c ms) := by
  intro W tk σ r sl D0 eB R S g
  obtain ⟨hcm, hr, hxa⟩ := g0.calm hc
  obtain ⟨hm0, hm1⟩ := g0.wf.mkx X rfl rfl rfl rfl rfl hcm hr c x es.length p p2 (ixOf_get hx) har (glo_gl g0 hg)
  have hfl := g0.wf.flc c x (ixOf_get hx)
  cases es with
  | nil =>
    obtain rfl : ms = [] := List.length_eq_zero_iff.mp hlen
    simp only [evS, evEs] at g
    refine SM.of (ps_raise hcm tk (hm0 rfl)) ?_
    have g1 : GQ ec r D0 W (if G.flc[c]? = some ([] : List D).length then .exc c [] sl r.ns else .bad) := g
    split at g1
    · rename_i hz
      rw [hfl] at hz
      have hfe : B.fl c = [] := List.length_eq_zero_iff.mp (Option.some.inj hz)
      refine ⟨by rw [hfe]; rfl, .inl ⟨hfe, ?_⟩⟩
      exact g1 r σ none rfl (Ext.refl r) R S (.inl ⟨rfl, rfl⟩)
    · exact False.elim g1
  | cons e1 es1 =>
    have hb : (backTo p2 (starEach es1 X.env)).any (·.1) = false := back_any fun q hq => hst q (by rw [hs1 e1 es1 rfl]; exact List.mem_cons_of_mem _ hq)
    refine SM.of (ps_raise hcm tk (hm1 (by simp) e1 es1 _ pa_am (hs1 e1 es1 rfl) hb)) ?_
    simp only [evS] at g
    refine ha tk eB R S (g.step R S fun vs h1 r1 us _ n1 e1' R1 q1 S1 g1 => ?_)
    subst n1
    have g2 : GQ ec r1 D0 W (if G.flc[c]? = some vs.length then .exc c vs sl r1.ns else .bad) := g1
    split at g2
    · rename_i hz
      rw [hfl] at hz
      have hz2 : (B.fl c).length = vs.length := Option.some.inj hz
      have eBf : r1.B.fl c = B.fl c := by rw [e1'.B, eB]
      have hlu : us.length = (B.fl c).length := by rw [← q1.length, hz2]
      refine ⟨hlu, ?_⟩
      by_cases hfe : B.fl c = []
      · have hv : vs = [] := List.length_eq_zero_iff.mp (by rw [← hz2, hfe]; rfl)
        exact .inl ⟨hfe, g2 r1 σ none rfl (Ext.refl r1) R1 S1 (.inl ⟨rfl, hv⟩)⟩
      · refine .inr ⟨hfe, fun d hd => ?_⟩
        obtain ⟨e2, R2⟩ := R1.alloc (o := .xd ((B.fl c).zip us).reverse) hd
        have hv : vs ≠ [] := fun z => hfe (List.length_eq_zero_iff.mp (by rw [hz2, z]; rfl))
        exact g2 { r1 with H := upd r1.H d (.xd ((B.fl c).zip us).reverse) } σ (some d) rfl e2 R2 (S1.ext R1 e2) (.inr ⟨d, us, rfl, hv, by
          show upd r1.H d _ d = _
          rw [upd_same]
          show some (HO.xd ((B.fl c).zip us).reverse) = some (.xd ((r1.B.fl c).zip us).reverse)
          rw [eBf], by
          show us.length = (r1.B.fl c).length
          rw [eBf]; exact hlu, RVs.ext R1 e2 q1⟩)
    · exact False.elim g2

/-! ### a suite -/
mutual
theorem RV.noX {r : RC} (hx : r.B.xa = none) : ∀ {d : D} {v : V}, RV r d v → noX d = true
  | .non, _, _ => by simp only [MP.noX]
  | .bl _, _, _ => by simp only [MP.noX]
  | .int _, _, _ => by simp only [MP.noX]
  | .str _, _, _ => by simp only [MP.noX]
  | .ref i, _, _ => by simp only [MP.noX]
  | .tup xs, _, h => by
    simp only [RV] at h
    obtain ⟨a, vs, rfl, _, h2⟩ := h
    simp only [MP.noX]; exact RVs.noX hx h2
  | .lst xs, _, h => by
    simp only [RV] at h
    obtain ⟨a, vs, rfl, _, _, h2⟩ := h
    simp only [MP.noX]; exact RVs.noX hx h2
  | .exn c fs, _, h => by
    simp only [RV] at h
    obtain ⟨a, d, rfl, h1, _⟩ := h
    rw [hx] at h1; cases h1
  | .dic _ _, _, _ => by simp only [MP.noX]
  | .scr _, _, _ => by simp only [MP.noX]
theorem RVs.noX {r : RC} (hx : r.B.xa = none) : ∀ {xs : List D} {vs : List V}, RVs r xs vs → noXs xs = true
  | [], _, _ => by simp only [MP.noXs]
  | x :: xs, _, h => by
    obtain ⟨v, ws, rfl, h1, h2⟩ := RVs.inv h
    simp only [MP.noXs, Bool.and_eq_true]
    exact ⟨RV.noX hx h1, RVs.noX hx h2⟩
end
def RC.xaS (r : RC) (q : Option (Addr × Nat × Option Addr)) : RC := { r with B := { r.B with xa := q } }
mutual
theorem RV.xaS {r : RC} (q : Option (Addr × Nat × Option Addr)) : ∀ {d : D} {v : V}, noX d = true → RV r d v → RV (r.xaS q) d v
  | .non, _, _, h => by simpa only [RV] using h
  | .bl _, _, _, h => by simpa only [RV] using h
  | .int _, _, _, h => by simpa only [RV] using h
  | .str _, _, _, h => by simpa only [RV] using h
  | .ref i, _, _, h => by
    simp only [RV] at h ⊢
    exact h
  | .tup xs, _, k, h => by
    simp only [MP.noX] at k
    simp only [RV] at h ⊢
    obtain ⟨a, vs, rfl, h1, h2⟩ := h
    exact ⟨a, vs, rfl, h1, RVs.xaS q k h2⟩
  | .lst xs, _, k, h => by
    simp only [MP.noX] at k
    simp only [RV] at h ⊢
    obtain ⟨a, vs, rfl, h1, w, h2⟩ := h
    exact ⟨a, vs, rfl, h1, w, RVs.xaS q k h2⟩
  | .exn c fs, _, k, h => by simp [MP.noX] at k
  | .dic _ _, _, _, h => by
    simp only [RV] at h ⊢
    exact h
  | .scr _, _, _, h => by
    simp only [RV] at h ⊢
    exact h
theorem RVs.xaS {r : RC} (q : Option (Addr × Nat × Option Addr)) : ∀ {xs : List D} {vs : List V}, noXs xs = true → RVs r xs vs → RVs (r.xaS q) xs vs
  | [], _, _, h => by rw [RVs.invN h]; exact RVs.nil
  | x :: xs, _, k, h => by
    simp only [MP.noXs, Bool.and_eq_true] at k
    obtain ⟨v, ws, rfl, h1, h2⟩ := RVs.inv h
    exact RVs.cons (RV.xaS q k.1 h1) (RVs.xaS q k.2 h2)
end
theorem Rep.xaS {r : RC} (R : Rep r) (q : Option (Addr × Nat × Option Addr)) (hn : ∀ (i : Nat) (xs : List D), r.ns[i]? = some (Nd.lst xs) → noXs xs = true) : Rep (r.xaS q) :=
  ⟨R.inj, fun i nd h => by
    cases nd with
    | lst xs =>
      obtain ⟨vs, h1, h2⟩ := R.nod i _ h
      exact ⟨vs, h1, RVs.xaS q (hn i xs h) h2⟩, R.sep, R.pvs⟩
theorem okSl_get : ∀ {as bs : Sl} {i : Nat} {a : D}, okSl as bs = true → as[i]? = some (some a) → bs[i]? = some (some a) ∨ noX a = true
  | [], _, i, a, _, h => by simp at h
  | none :: as, [], i, a, h, _ => by simp [okSl] at h
  | some _ :: as, [], i, a, h, _ => by simp [okSl] at h
  | none :: as, b :: bs, 0, a, _, h => by simp at h
  | none :: as, b :: bs, i + 1, a, k, h => by
    simp only [okSl] at k
    simpa using okSl_get k (by simpa using h)
  | some x :: as, b :: bs, 0, a, k, h => by
    simp only [okSl, Bool.and_eq_true, Bool.or_eq_true, decide_eq_true_eq] at k
    simp at h
    subst h
    rcases k.1 with h | h
    · exact .inl (by simp [h])
    · exact .inr h
  | some x :: as, b :: bs, i + 1, a, k, h => by
    simp only [okSl, Bool.and_eq_true] at k
    simpa using okSl_get k.2 (by simpa using h)
/-- a place of a def's body: its frame -/
structure XS (X : Cx) : Prop where
  st : X.stack = X.env :: X.outer
  fr : X.env.frame = some X.env.locals
  po : PassesOwn (model X.prog X.w) X.A X.env X.xe
theorem ss_try {x y : Str} {c i : Nat} {body suite : List Stmt} {s0 : Stmt} {mbody msuite : List S} {np pos' : Pos} (g0 : XG cf G C ec k B N sc X) (xs : XS X) (hc : cf.calm = true) (hg : glo? sc x = true) (hx : ixOf cf.exs x = some c) (hi : N[i]? = some y) (hl : sc.names.lookup y = some .local)
    (hb : ∀ pn xe, PassesOwn (model X.prog X.w) X.A X.env xe → XG cf G C ec k B N sc (X.tr pn xe) → SndSs G C ec B (X.tr pn xe) body mbody)
    (hs : ∀ a d c' oe pn vs, Zc (ec c') d oe → oe.data = .fields vs → (∃ x, cf.exs[c']? = some x) → XG { cf with calm := false } G C ec k { B with xa := some (a, c', d) } N sc (X.suite a ((a, oe) :: pn)) → SndSs G C ec { B with xa := some (a, c', d) } (X.suite a ((a, oe) :: pn)) (s0 :: suite) msuite) :
    SndS G C ec B X (.Try body [.ExceptHandler (some (.Name x np)) (some y) (s0 :: suite) pos'] [] [] pos) (.try_ mbody [.mk [c] (some i) msuite]) := by
  intro W tk σ r sl D0 eB R S g
  obtain ⟨hcm, hr, hxa⟩ := g0.calm hc
  obtain ⟨hd, Ca, hm, eC⟩ := g0.wf.exc c x (ixOf_get hx)
  have hnm : Names X x (ec c) := ⟨glo_gl g0 hg, hd, .inl (by rw [hm, eC])⟩
  have hkl : X.env.kindOf y = some .local := by show X.env.scope.names.lookup y = _; rw [g0.eS]; exact hl
  refine SM.of (ps_try_as (i := i) (tb := fun W D σ H => ∀ pn xe, Takes (X.tr pn xe) W → PassesOwn (model X.prog X.w) X.A X.env xe → SMs (X.tr pn xe) body D σ H)
    (ts := fun a cls d D σ H => ∀ oe pn, Zc cls d oe → (∃ vs, oe.data = .fields vs) → SMs (X.suite a ((a, oe) :: pn)) (s0 :: suite) D σ H)
    xs.st xs.fr (by rw [g0.eN]; exact g0.nd) (by rw [g0.eN]; exact hi) hkl hnm tk (fun W pn xe tk po => ⟨fun pins s σ H D I h => h pn xe tk po pins s I⟩) (fun a oe cls d pn hz hv => ⟨fun pins s σ H D I h => h oe pn hz hv pins s I⟩)) ?_
  intro pn xe tk2 po
  have gtr : XG cf G C ec k B N sc (X.tr pn xe) := ⟨g0.eK, g0.nd, g0.room, g0.gd, g0.eN, g0.eS, g0.nn, (fun a c d h => by rw [hxa] at h; cases h), g0.calm, g0.wf⟩
  refine hb pn xe po gtr tk2 eB R S ?_
  have g1 : GQ ec r D0 W (match evSs G C mbody sl r.ns with
    | .exc c' fs sl h => if c' < G.exb.length then evH G C [.mk [c] (some i) msuite] c' fs sl h else .bad
    | q => q) := by
    simp only [evS] at g
    exact g
  cases ev : evSs G C mbody sl r.ns with
  | bad => rw [ev] at g1; exact g1
  | ok f sl1 h1 => rw [ev] at g1; cases f <;> exact g1
  | exc c' fs sl1 h1 =>
    rw [ev] at g1
    have hlt : c' < G.exb.length := by
      by_cases hlt : c' < G.exb.length
      · exact hlt
      · simp only [if_neg hlt] at g1
        exact False.elim g1
    simp only [if_pos hlt] at g1
    obtain ⟨x', hx'⟩ := g0.wf.exl c' hlt
    intro r1 σ1 d n1 e1 R1 S1 q1
    subst n1
    replace g1 := GQ.ext e1 g1
    have eB1 : r1.B = B := e1.B.trans eB
    refine ⟨decide (c' = c), g0.wf.exm c' c x' x hx' (ixOf_get hx), fun hb a ha oe pn2 hz hv => ?_, fun hb => ?_⟩
    · have ecc : c' = c := of_decide_eq_true hb
      obtain ⟨vs, hv⟩ := hv
      have gsu : XG { cf with calm := false } G C ec k { B with xa := some (a, c', d) } N sc (X.suite a ((a, oe) :: pn2)) := ⟨g0.eK, g0.nd, g0.room, g0.gd, g0.eN, g0.eS, g0.nn, fun a2 c2 d2 h => by
        cases h
        exact ⟨oe, vs, List.mem_cons_self, hv, hz, x', hx'⟩, (fun h => by cases h), ⟨g0.wf.fn, g0.wf.gl, g0.wf.bi, g0.wf.exc, g0.wf.mkx, g0.wf.ars, g0.wf.fls, g0.wf.fno, g0.wf.exl, g0.wf.flc, g0.wf.exk, g0.wf.sys, g0.wf.exm⟩⟩
      have hxr : r1.B.xa = none := by rw [eB1]; exact hxa
      have hnn : ∀ (j : Nat) (zs : List D), r1.ns[j]? = some (Nd.lst zs) → noXs zs = true := fun j zs h => by
        obtain ⟨us, _, h2⟩ := R1.nod j _ h
        exact RVs.noX hxr h2
      have Rx : Rep (r1.xaS (some (a, c', d))) := R1.xaS _ hnn
      have hfs : noXs fs = true := by
        rcases q1 with ⟨_, rfl⟩ | ⟨_, _, _, _, _, _, h3⟩
        · rfl
        · exact RVs.noX hxr h3
      have Sx : RS (r1.xaS (some (a, c', d))) sl1 σ1 := ⟨S1.1, fun j z h => let ⟨v, h1, h2⟩ := S1.2 j z h; ⟨v, h1, RV.xaS _ (RV.noX hxr h2) h2⟩⟩
      have rva : RV (r1.xaS (some (a, c', d))) (.exn c' fs) (.ref a) := by
        simp only [RV]
        refine ⟨a, d, rfl, rfl, ?_⟩
        rcases q1 with q1 | ⟨dx, us, rfl, hne, h1, h2, h3⟩
        · exact .inl q1
        · exact .inr ⟨dx, us, rfl, hne, h1, h2, RVs.xaS _ hfs h3⟩
      have hs1 := hs a d c' oe pn2 vs hz hv ⟨x', hx'⟩ gsu
      have eBx : (r1.xaS (some (a, c', d))).B = { B with xa := some (a, c', d) } := by
        show ({ r1.B with xa := _ } : RB) = _
        rw [eB1]
      show SMs _ _ _ _ (r1.xaS (some (a, c', d))).H
      refine hs1 takes0 eBx Rx (Sx.set (i := i) rva) ?_
      have g2 : GQ ec r1 D0 W (match evSs G C msuite (sl1.set i (some (.exn c' fs))) r1.ns with
        | .ok f sl2 h2 => if h2 = r1.ns ∧ okSl (sl2.set i none) sl1 = true ∧ okF f = true then .ok f (sl2.set i none) r1.ns else .bad
        | _ => .bad) := by
        simp only [evH, evH1, ecc, List.contains_cons, List.contains_nil, Bool.or_false, beq_self_eq_true, if_true] at g1
        rw [ecc]
        exact g1
      have back : ∀ {r3 : RC} {sl3 : Sl} {σ3 : St}, r3.ns = r1.ns → Ext (r1.xaS (some (a, c', d))) r3 → Rep r3 → RS r3 sl3 σ3 → okSl (sl3.set i none) sl1 = true →
          (r3.xaS none).ns = r1.ns ∧ Ext r1 (r3.xaS none) ∧ Rep (r3.xaS none) ∧ RS (r3.xaS none) (sl3.set i none) (σ3.set i none) := fun {r3 sl3 σ3} n3 e3 R3 S3 ok3 => by
        refine ⟨n3, ⟨⟨?_, e3.keep, e3.own, e3.loc, e3.len⟩, e3.pv, e3.prv⟩, R3.xaS none fun j zs h => hnn j zs (by rw [← n3]; exact h), ?_⟩
        · show ({ r3.B with xa := none } : RB) = r1.B
          rw [e3.B]
          show ({ ({ r1.B with xa := _ } : RB) with xa := none } : RB) = r1.B
          obtain ⟨⟨K1, f1, x1⟩, _⟩ := r1
          cases hxr
          rfl
        · have S4 := S3.unset i
          refine ⟨S4.1, fun j z h => ?_⟩
          obtain ⟨v, h1, h2⟩ := S4.2 j z h
          refine ⟨v, h1, RV.xaS none ?_ h2⟩
          rcases okSl_get ok3 h with h | h
          · obtain ⟨v2, _, h3⟩ := S1.2 j z h
            exact RV.noX hxr h3
          · exact h
      cases ev2 : evSs G C msuite (sl1.set i (some (.exn c' fs))) (r1.xaS (some (a, c', d))).ns with
      | bad => rw [show evSs G C msuite (sl1.set i (some (.exn c' fs))) r1.ns = _ from ev2] at g2; exact False.elim g2
      | exc c2 fs2 sl2 h2 => rw [show evSs G C msuite (sl1.set i (some (.exn c' fs))) r1.ns = _ from ev2] at g2; exact False.elim g2
      | ok f sl2 h2 =>
        rw [show evSs G C msuite (sl1.set i (some (.exn c' fs))) r1.ns = _ from ev2] at g2
        by_cases hk : h2 = r1.ns ∧ okSl (sl2.set i none) sl1 = true ∧ okF f = true
        · simp only [if_pos hk] at g2
          obtain ⟨rfl, k2, k3⟩ := hk
          cases f with
          | nx =>
            intro r3 σ3 n3 e3 R3 S3
            obtain ⟨b1, b2, b3, b4⟩ := back n3 e3 R3 S3 k2
            exact g2 (r3.xaS none) _ b1 b2 b3 b4
          | bk =>
            intro r3 σ3 n3 e3 R3 S3
            obtain ⟨b1, b2, b3, b4⟩ := back n3 e3 R3 S3 k2
            exact g2 (r3.xaS none) _ b1 b2 b3 b4
          | ct =>
            intro r3 σ3 n3 e3 R3 S3
            obtain ⟨b1, b2, b3, b4⟩ := back n3 e3 R3 S3 k2
            exact g2 (r3.xaS none) _ b1 b2 b3 b4
          | rt z =>
            intro r3 v3 n3 e3 R3 rv
            have e3' : Ext r1 (r3.xaS none) := ⟨⟨by
              show ({ r3.B with xa := none } : RB) = r1.B
              rw [e3.B]
              show ({ ({ r1.B with xa := _ } : RB) with xa := none } : RB) = r1.B
              obtain ⟨⟨K1, f1, x1⟩, _⟩ := r1
              cases hxr
              rfl, e3.keep, e3.own, e3.loc, e3.len⟩, e3.pv, e3.prv⟩
            exact g2 (r3.xaS none) v3 n3 e3' (R3.xaS none fun j zs h => hnn j zs (by rw [← n3]; exact h)) (RV.xaS none k3 rv)
        · simp only [if_neg hk] at g2
          exact False.elim g2
    · have ecc : c' ≠ c := of_decide_eq_false hb
      have g2 : GQ ec r1 D0 W (.exc c' fs sl1 r1.ns) := by
        have hcc : ([c] : List Nat).contains c' = false := by simp [ecc]
        simpa only [evH, evH1, hcc, Bool.false_eq_true, if_false] using g1
      exact g2 r1 σ1 d rfl (Ext.refl r1) R1 S1 q1
end
end L2.MP
/-! MpS3: the translator's statements, all. -/
namespace L2.MP
open PySem PySem.Spec PyProof.Rows
section
variable {G : Gl} {C : Nat → List D → Hs → MP.R D} {ec : EC} {k : Nat} {N : List Str} {pos p2 p : Pos}
/-- a place where statements stand: targets may be stored to; in calm places the frame is known -/
structure XT (cf : Cf) (sc : Scope) (X : Cx) : Prop where
  tg : Tg sc X
  xs : cf.calm = true → XS X
theorem swaps_no {a : Expr} (h : isLc a = false) {cf : Cf} {n : Nat} {sc : Scope} {m : E} (ht : trE cf n N sc a = some m) (t : Option Expr) (l : Nat) (env : Env) : swapsWith a t l env = pure false := by
  cases a <;> first | rfl | (cases h; done) | skip
  all_goals
    cases n with
    | zero => cases ht
    | succ n => unfold trE at ht; cases ht
theorem sub_no (a o i : Expr) (l : Nat) (env : Env) : swapsWithSole [.Subscript o i p] a l env = pure false := by cases a <;> rfl
theorem sub_none (a o i : Expr) (env : Env) : swappedStores [.Subscript o i p] a env = pure none := by cases a <;> rfl
theorem tup_no {k1 : Nat} (a : Expr) (es : List Expr) (l : Nat) (env : Env) : swapsWithSole [.Tuple es k1 p] a l env = pure false := by cases a <;> rfl
theorem tup_none {k1 : Nat} {a : Expr} {es : List Expr} (h : bothTup (.Tuple es k1 p) a = false) (env : Env) : swappedStores [.Tuple es k1 p] a env = pure none := by
  cases a <;> first | rfl | (cases h; done)
theorem trT_name {cf : Cf} {n : Nat} {sc : Scope} {nd : Bool} {x : Str} {t : T} (h : trT nd n N sc (.Name x p) = some t) : ∃ i, N[i]? = some x ∧ (sc.names.lookup x = some .local ∨ sc.names.lookup x = some .cell) ∧ t = .nm i := by
  cases n with
  | zero => cases h
  | succ n =>
    unfold trT at h
    simp only at h
    split at h
    · rename_i hl
      obtain ⟨i, hi, rfl⟩ := Option.map_eq_some_iff.mp h
      exact ⟨i, ixOf_get hi, .inl hl, rfl⟩
    · rename_i hl
      obtain ⟨i, hi, rfl⟩ := Option.map_eq_some_iff.mp h
      exact ⟨i, ixOf_get hi, .inr hl, rfl⟩
    · cases h
structure SndStmts (cf : Cf) (G : Gl) (C : Nat → List D → Hs → MP.R D) (ec : EC) (N : List Str) (n : Nat) (B : RB) (sc : Scope) (X : Cx) : Prop where
  s : ∀ {st m}, trS cf n N sc st = some m → SndS G C ec B X st m
  ss : ∀ {st m}, trSs cf n N sc st = some m → SndSs G C ec B X st m
theorem snd_stmts : ∀ (n : Nat) {cf : Cf} {B : RB} {sc : Scope} {X : Cx}, XG cf G C ec k B N sc X → XT cf sc X → SndStmts cf G C ec N n B sc X
  | 0, cf, B, sc, X, g0, xt => ⟨(fun h => nomatch h), (fun h => nomatch h)⟩
  | n + 1, cf, B, sc, X, g0, xt => by
    have ih := snd_stmts n g0 xt
    have ex := snd_all n g0
    refine ⟨fun {st m} h => ?_, fun {st m} h => ?_⟩
    · unfold trS at h
      split at h
      · obtain ⟨e, h1, h⟩ := of_bind h
        obtain ⟨o, h2, h⟩ := of_bind h
        obtain ⟨i, h3, h⟩ := of_bind h
        cases h
        refine ss_sto (fun lo hh st pp z => ?_) (fun l => sub_no _ _ _ _ _) (sub_none _ _ _ _) (ex.e h1).1 (ex.e h2).1 (ex.e h3).1
        subst z
        cases n with
        | zero => cases h3
        | succ n => unfold trE at h3; cases h3
      · rename_i tg0 a0 pos0 hnsub
        split at h
        · cases h
        · rename_i hbt
          simp only [Bool.or_eq_true, not_or, Bool.not_eq_true] at hbt
          obtain ⟨ma, h1, h⟩ := of_bind h
          obtain ⟨t, h2, h⟩ := of_bind h
          cases h
          have hN : X.N.Nodup := by rw [g0.eN]; exact g0.nd
          cases tg0 with
          | Name x px =>
            obtain ⟨i, hi, hl, rfl⟩ := trT_name (cf := cf) h2
            obtain ⟨k1, k2⟩ := xt.tg x hl
            have hi2 : X.N[i]? = some x := by rw [g0.eN]; exact hi
            cases hlc : isLc a0 with
            | false => exact ss_name hN hi2 k1 k2 (fun l => swaps_no hlc h1 _ _ _) (ex.e h1).1
            | true =>
              cases a0 with
              | ListComp elt gens sc2 p0 =>
                have hb : ∃ b : Bool, ∀ l, swapsWith (.ListComp elt gens sc2 p0) (some (.Name x px)) l X.env = pure b ∧ (b = true → X.env.scope.names.lookup x = some .local) := by
                  refine ⟨_, fun l => ⟨rfl, fun hb => ?_⟩⟩
                  simp only [Bool.and_eq_true] at hb
                  exact eq_of_beq hb.1.1.2
                obtain ⟨b, hb⟩ := hb
                cases b with
                | false => exact ss_name hN hi2 k1 k2 (fun l => (hb l).1) (ex.e h1).1
                | true =>
                  have hg : ∃ g1, gens = [g1] := by
                    cases n with
                    | zero => cases h1
                    | succ n =>
                      rcases gens with _ | ⟨g1, _ | ⟨g2, gs⟩⟩
                      · unfold trE at h1; cases h1
                      · exact ⟨g1, rfl⟩
                      · unfold trE at h1; cases h1
                  obtain ⟨g1, rfl⟩ := hg
                  intro W tk σ r sl D0 eB R S g pins s I
                  simp only [evS] at g
                  refine ex.l h1 tk hi ((hb pos0.line).2 rfl) (hb pos0.line).1 eB R S (g.step R S fun y h1 r1 v1 _ n1 e1 R1 q1 S1 g1 => ?_) pins s I
                  subst n1
                  obtain ⟨sl2, h2, g1⟩ := GQ.of g1
                  simp only [asgT, Option.some.injEq] at h2
                  subst h2
                  exact g1 r1 _ rfl (Ext.refl r1) R1 (S1.set q1)
              | _ => cases hlc
          | Tuple es k1 px =>
            cases hcm : cf.calm with
            | true => exact ss_tup (g0 := g0) (fun l => tup_no _ _ _ _) (tup_none hbt.1.1 _) rfl (trT_snd hN g0.eN (g0.calm hcm).1 xt.tg n _ t _ h2) (ex.e h1).1
            | false => simp [isTup, hcm] at hbt
          | Starred u px => cases hbt.1.2
          | _ =>
            cases n with
            | zero => cases h2
            | succ n => unfold trT at h2; cases h2
      · cases h; exact ss_doc
      · split at h
        · cases h
        · rename_i hl
          obtain ⟨a, h1, rfl⟩ := Option.map_eq_some_iff.mp h
          exact ss_ex (fun l => swaps_no (by simpa using hl) h1 _ _ _) (ex.e h1).1
      · cases h; exact ss_retN
      · obtain ⟨a, h1, rfl⟩ := Option.map_eq_some_iff.mp h
        exact ss_ret (ex.e h1).1
      · obtain ⟨c, h1, h⟩ := of_bind h
        obtain ⟨x, h2, h⟩ := of_bind h
        obtain ⟨y, h3, h⟩ := of_bind h
        cases h
        exact ss_ite (ex.e h1).2 (ih.ss h2) (ih.ss h3)
      · obtain ⟨it, h1, h⟩ := of_bind h
        obtain ⟨t, h2, h⟩ := of_bind h
        obtain ⟨b, h3, h⟩ := of_bind h
        split at h
        · rename_i hk
          cases h
          simp only [Bool.and_eq_true] at hk
          obtain ⟨q1, q2⟩ := ex.i h1 hk.2
          exact ss_for g0 (xt.xs hk.1).po (g0.calm hk.1).1 (tr_fold q2 X.env) q1 (trT_snd (by rw [g0.eN]; exact g0.nd) g0.eN (g0.calm hk.1).1 xt.tg n _ t false h2) (ih.ss h3)
        · cases h
      · split at h
        · rename_i hk
          simp only [Bool.and_eq_true] at hk
          obtain ⟨c, h1, h⟩ := of_bind h
          split at h
          · rename_i har
            obtain ⟨ms, h2, rfl⟩ := Option.map_eq_some_iff.mp h
            refine ss_rais g0 hk.1 h1 hk.2 har (trEs_len h2) (ex.es h2) (tr_stars h2 X.env) fun e1 es1 e => ?_
            subst e
            cases n with
            | zero => cases h2
            | succ n =>
              unfold trEs at h2
              obtain ⟨a, h4, _⟩ := of_bind h2
              exact tr_star h4 _ _
          · cases h
        · cases h
      · rename_i body x px y s0 suite pos1 pos2
        split at h
        · rename_i hk
          simp only [Bool.and_eq_true, Option.isNone_iff_eq_none] at hk
          obtain ⟨⟨hg, hc⟩, hf⟩ := hk
          obtain ⟨mb, h1, h⟩ := of_bind h
          obtain ⟨c, h2, h⟩ := of_bind h
          obtain ⟨i, h3, h⟩ := of_bind h
          obtain ⟨ms, h4, h⟩ := of_bind h
          cases h
          split at h3
          · rename_i hl
            have xs := xt.xs hc
            exact ss_try g0 xs hc hg h2 (ixOf_get h3) hl
              (fun pn xe po gtr => (snd_stmts n gtr ⟨xt.tg, fun _ => ⟨xs.st, xs.fr, po⟩⟩).ss h1)
              (fun a d c' oe pn vs hz hv hx' gsu => (snd_stmts n gsu ⟨xt.tg, fun z => nomatch z⟩).ss h4)
          · cases h3
        · cases h
      · cases h; exact ss_pass
      · cases h; exact ss_brk
      · cases h; exact ss_cnt
      · cases h
    · cases st with
      | nil =>
        unfold trSs at h
        cases h
        exact ss_nil
      | cons s ss =>
        unfold trSs at h
        obtain ⟨a, h1, h⟩ := of_bind h
        obtain ⟨r, h2, h⟩ := of_bind h
        cases h
        exact ss_cons (ih.s h1) (ih.ss h2)
end
end L2.MP
/-! MpF: the defs. -/
namespace L2.MP
open PySem PySem.Spec PyProof.Rows
section
variable {cf : Cf} {G : Gl} {C : Nat → List D → Hs → MP.R D} {ec : EC} {k n : Nat} {K : PySem.W.Frag} {P : Program} {w : World} {mg : Str → Option Value} {base : Heap} {fl : Nat → List Str}
theorem start_rs {r : RC} {N : List Str} {xs : List D} {vs : List V} (h : RVs r xs vs) (hN : vs.length ≤ N.length) : RS r (xs.map some ++ List.replicate (N.length - xs.length) none) (start N vs) := by
  have hl := h.length
  refine ⟨by unfold start; simp; omega, fun i d q => ?_⟩
  by_cases hi : i < xs.length
  · rw [List.getElem?_append_left (by simpa using hi)] at q
    simp only [List.getElem?_map, Option.map_eq_some_iff] at q
    obtain ⟨x, hx, e⟩ := q
    cases e
    obtain ⟨v, hv, rv⟩ := h.get hx
    refine ⟨v, ?_, rv⟩
    unfold start
    rw [List.getElem?_append_left (by rw [List.length_map, ← hl]; exact hi)]
    simp [hv]
  · rw [List.getElem?_append_right (by simpa using hi)] at q
    have := List.mem_of_getElem? q
    rw [List.mem_replicate] at this
    cases this.2
/-- a def of the program keeps the interpreter's promise -/
theorem def_ok {qual x : Str} {params : Arguments} {body : List Stmt} {scope : Scope} {f : Addr} {fd : FuncData} {N ps : List Str} {mb : List S} {g : List D → Hs → MP.R D} (wf : WF cf G C ec k P w K fl mg base) (hcalm : cf.calm = true)
    (F : FunD K x qual params body scope [] [] f fd) (S0 : FnScope N ps scope) (hnn : ∀ x ∈ N, (x == ("__debug__" : Str)) = false ∧ (x == ("__classdict__" : Str)) = false) (ht : trSs cf n N scope body = some mb)
    (hg : ∀ xs h, g xs h = if xs.length = ps.length then (match evSs G C mb (xs.map some ++ List.replicate (N.length - ps.length) none) h with
      | .ok (.rt v) _ h => .ok v h
      | .ok .nx _ h => .ok .non h
      | .exc c fs _ h => .exc c fs h
      | _ => .bad) else .bad) :
    FnG P w K mg base (L2.CX P w) (k + 1) f fd ps (spOf ec K fl ps.length g) := by
  refine fnG_of F S0 (fun {vs H Q E} ⟨r, xs, _, _, _, _, _, _, hl, _⟩ => hl) (fun cdv A outer s H vs Q E hgd hr ⟨r, xs, hK, hfl, hxa, hH, R, rv, hl, gd⟩ => ⟨SMs _ body, pss_sms, ?_⟩)
  subst hH
  have hxl : xs.length = ps.length := by rw [rv.length, hl]
  have hpl : ps.length ≤ N.length := by have := congrArg List.length S0.pre; rw [List.length_take] at this; omega
  have g0 : XG cf G C ec k r.B N scope (cxOf (L2.CX P w) P w K mg base N qual scope f cdv A outer s r.H E) := ⟨hK.symm, S0.nd, (by have hu := hr.un; show (A.deeper _).units + 100 < cLine; omega), hgd, rfl, rfl, hnn, (fun a c d h => by rw [hxa] at h; cases h), fun _ => ⟨rfl, hr, hxa⟩, by rw [hfl]; exact wf⟩
  have xt : XT cf scope (cxOf (L2.CX P w) P w K mg base N qual scope f cdv A outer s r.H E) := ⟨fun x h => ⟨h, .inl rfl⟩, fun _ => ⟨rfl, rfl, passes_of rfl⟩⟩
  have tk : Takes (cxOf (L2.CX P w) P w K mg base N qual scope f cdv A outer s r.H E) (fun cls d _ H => E cls d H) := takes_of rfl rfl rfl rfl
  refine (snd_stmts n g0 xt).ss ht tk rfl R (start_rs rv (by rw [hl]; exact hpl)) ?_
  rw [hg, if_pos hxl] at gd
  rw [← hxl] at gd
  cases ev : evSs G C mb (xs.map some ++ List.replicate (N.length - xs.length) none) r.ns with
  | bad => rw [ev] at gd; exact gd
  | exc c fs sl h => rw [ev] at gd; exact fun r' σ' d n e R' S' q => gd r' d n e R' q
  | ok fl2 sl h =>
    rw [ev] at gd
    cases fl2 with
    | nx => exact fun r' σ' n e R' S' => gd r' .non n e R' mk_non
    | rt v => exact gd
    | bk => exact False.elim gd
    | ct => exact False.elim gd
end
end L2.MP
/-! MpF2: all defs, at every depth. -/
namespace L2.MP
open PySem PySem.Spec PyProof.Rows
section
variable {cf : Cf} {G : Gl} {ec : EC} {K : PySem.W.Frag} {P : Program} {w : World} {mg : Str → Option Value} {base : Heap} {fl : Nat → List Str} {Fs : List Fn}
/-- one def's text and facts -/
structure DefOk (cf : Cf) (K : PySem.W.Frag) (mg : Str → Option Value) (x : Str) (fn : Fn) : Prop where
  hd : (x == ("__debug__" : Str)) = false
  ex : ∃ (n0 : Nat) (qual : Str) (params : Arguments) (body : List Stmt) (scope : Scope) (f : Addr) (fd : FuncData) (N ps : List Str), mg x = some (.ref f) ∧ FunD K x qual params body scope [] [] f fd ∧ FnScope N ps scope ∧
    (∀ x ∈ N, (x == ("__debug__" : Str)) = false ∧ (x == ("__classdict__" : Str)) = false) ∧ trSs cf n0 N scope body = some fn.body ∧ fn.np = ps.length ∧ fn.ns = N.length ∧ Binds K fd ps []
/-- the facts but the defs' -/
structure WF0 (cf : Cf) (G : Gl) (ec : EC) (P : Program) (w : World) (K : PySem.W.Frag) (fl : Nat → List Str) (mg : Str → Option Value) (base : Heap) : Prop where
  gl : ∀ (i : Nat) (x : Str) (d : D), cf.gls[i]? = some x → G.gls[i]? = some d → (x == ("__debug__" : Str)) = false ∧ ∃ v u, mg x = some u ∧ RelV v u ∧ ∀ r : RC, r.B.K = K → RV r d v
  bi : ∀ x : Str, biN x = true → ixOf cf.fns x = none → ixOf cf.exs x = none → mg x = none
  exc : ∀ (c : Nat) (x : Str), cf.exs[c]? = some x → (x == ("__debug__" : Str)) = false ∧ ∃ a, mg x = some (.ref a) ∧ ec c = .ref a
  mkx : ∀ (X : Cx), X.prog = P → X.w = w → X.K = K → X.mg = mg → X.base = base → X.calm = true → Room 3 X.A → ∀ (c : Nat) (x : Str) (m : Nat) (p pos : Pos), cf.exs[c]? = some x → cf.ars[c]? = some (some m) → L2.Gl X x → MkOk ec fl X c x m p pos
  ars : ∀ (c m : Nat), cf.ars[c]? = some (some m) → (fl c).length = m
  fls : ∀ (c : Nat) (x : Str), cf.exs[c]? = some x → ∃ ns, G.fls[c]? = some ns ∧ fl c = ns.map (fun n => (⟨n.toArray⟩ : Str)) ∧ ns.Nodup
  fno : ∀ (c : Nat) (x : Str), cf.exs[c]? = some x → ∀ a, ec c = .ref a → ∀ f ∈ fl c, PySem.W.findIn K (.ref a) f = some none
  exl : ∀ (c : Nat), c < G.exb.length → ∃ x, cf.exs[c]? = some x
  flc : ∀ (c : Nat) (x : Str), cf.exs[c]? = some x → G.flc[c]? = some (fl c).length
  exk : ∀ (c : Nat) (x : Str), cf.exs[c]? = some x → (∀ a, ec c = .ref a → ExcC K a) ∧ (∀ (c' : Nat) (x' : Str), cf.exs[c']? = some x' → PySem.W.kitOne K (ec c) (ec c') = some (c == c')) ∧ ∀ (s t : String), (s = "ValueError" ∨ s = "KeyError" ∨ s = "OverflowError") → G.exb[c]? = some t → PySem.W.kitOne K (ec c) (.type s) = some (t == s)
  sys : ∃ o, K.lookup sysModules = some o ∧ o.cls = .type "dict"
  exm : ∀ (c c' : Nat) (x x' : Str), cf.exs[c]? = some x → cf.exs[c']? = some x' → PySem.W.exmOne K (ec c) (ec c') = some (decide (c = c'))
theorem Room.down {j k : Nat} {A : Around} (h : Room k A) (hj : j ≤ k) : Room j A := ⟨h.hd, by have := h.dp; omega, by have := h.un; omega⟩
theorem wf_all (w0 : WF0 cf G ec P w K fl mg base) (hcalm : cf.calm = true) (hF : ∀ (f : Nat) (x : Str), cf.fns[f]? = some x → ∃ fn, Fs[f]? = some fn ∧ DefOk cf K mg x fn) : ∀ n, WF cf G (callN G Fs n) ec (n + 3) P w K fl mg base
  | 0 => ⟨fun f x hx => by
      obtain ⟨fn, hfn, hd, n0, qual, params, body, scope, fa, fd, N, ps, h1, h2, h3, h4, h5, h6, h7, h8⟩ := hF f x hx
      exact ⟨hd, fa, fd, ps, h1, h2.kp, h8, ⟨fun {vs H Q E} ⟨r, xs, _, _, _, _, _, _, hl, _⟩ => hl, fun {A outer s H args us vs Q E} _ hr e0 hb rv ⟨r, xs, _, _, _, _, _, _, _, gd⟩ => False.elim gd⟩, fun vs h z => absurd rfl z⟩,
    w0.gl, w0.bi, w0.exc, fun X a1 a2 a3 a4 a5 a6 hr => w0.mkx X a1 a2 a3 a4 a5 a6 (Room.down hr (by omega)), w0.ars, w0.fls, w0.fno, w0.exl, w0.flc, w0.exk, w0.sys, w0.exm⟩
  | n + 1 => ⟨fun f x hx => by
      obtain ⟨fn, hfn, hd, n0, qual, params, body, scope, fa, fd, N, ps, h1, h2, h3, h4, h5, h6, h7, h8⟩ := hF f x hx
      have hg : ∀ xs h, callN G Fs (n + 1) f xs h = if xs.length = ps.length then (match evSs G (callN G Fs n) fn.body (xs.map some ++ List.replicate (N.length - ps.length) none) h with
        | .ok (.rt v) _ h => .ok v h
        | .ok .nx _ h => .ok .non h
        | .exc c fs _ h => .exc c fs h
        | _ => .bad) else .bad := fun xs h => by
        simp only [callN, hfn, h6, h7]
        try rfl
      refine ⟨hd, fa, fd, ps, h1, h2.kp, h8, def_ok (wf_all w0 hcalm hF n) hcalm h2 h3 h4 h5 hg, fun vs h z => ?_⟩
      rw [hg] at z
      by_cases hl : vs.length = ps.length
      · exact hl
      · rw [if_neg hl] at z
        exact absurd rfl z,
    w0.gl, w0.bi, w0.exc, fun X a1 a2 a3 a4 a5 a6 hr => w0.mkx X a1 a2 a3 a4 a5 a6 (Room.down hr (by omega)), w0.ars, w0.fls, w0.fno, w0.exl, w0.flc, w0.exk, w0.sys, w0.exm⟩
end
end L2.MP
/-! MpX: an own exception without fields is made. -/
namespace L2.MP
open PySem PySem.Spec PyProof.Rows
section
variable {X : Cx}
theorem made0 {pins : List (Addr × Obj)} {σ : St} {H1 : Hp} {hp hp2 h2 : Heap} {g1 g2 : Array GenState} {d1 d2 : Drawn} {t1 t2 : Nat} {os1 os2 : OsState} {a C : Addr} (I1 : Inv X pins σ H1 ⟨hp, g1, d1, t1, os1⟩)
    (ha : hp.objs.size ≤ a) (kk : ∀ b o, hp.get? b = some o → hp2.get? b = some o) (un : Un (frs X.stack) [] (upd H1 a (exo a C none)) (upd H1 a (exo a C none)) hp2 h2) (hok : HOk X.prog X.w (upd H1 a (exo a C none)) h2) (ho : os2 = os1) (hb : AllBare g2) :
    ∃ (t0 : Addr) (Gh : Heap), Inv X pins σ H1 ⟨Gh, g2, d2, t2, os2⟩ ∧ (∀ b o, Gh.get? b = some o → h2.get? b = some o) ∧ Gh.get? a = none ∧
      h2.get? a = some ({ cls := .ref C, dict := none, data := .fields #[.ref t0, .none, .none, .none, .bool false, .none] } : Obj) ∧ H1 a = none := by
  have ea : upd H1 a (exo a C none) a = some (exo a C none) := upd_same
  obtain ⟨t0, hoe⟩ := exo_at hok ea
  have hn : H1 a = none := I1.hok.fresh ha
  obtain ⟨Gh, r1, r2⟩ := restrict h2 fun b => decide (b ≠ a)
  have gk : ∀ b, b ≠ a → Gh.get? b = h2.get? b := fun b hb => r1 b (decide_eq_true hb)
  have ge : Gh.get? a = none := r2 a (by simp)
  have nha : ∀ {b : Addr} {o : Obj}, hp.get? b = some o → b ≠ a := fun {b o} z => Nat.ne_of_lt (Nat.lt_of_lt_of_le (Heap.lt_size z) ha)
  have up : ∀ {b : Addr}, b ≠ a → H1 b = none → upd H1 a (exo a C none) b = none := fun {b} hb n => (upd_ne hb).trans n
  have U : Un (frs X.stack) [] H1 H1 hp Gh := {
    keep := fun b o z n hf hx => (gk b (nha z)).trans (un.keep b o (kk b o z) (up (nha z) n) hf hx)
    slot := fun b o z n hf hx => by
      obtain ⟨sl, q⟩ := un.slot b o (kk b o z) (up (nha z) n) hf hx
      exact ⟨sl, (gk b (nha z)).trans q⟩
    free := fun b o z n hx => n
    there := fun b o z hx => by
      obtain ⟨o', q⟩ := un.there b o (kk b o z) hx
      exact ⟨o', (gk b (nha z)).trans q⟩
    tups := fun b xs z => z
    frzs := fun b o v z => z
    tbls := fun b ps z => ⟨#[], by rw [Array.append_empty]; exact z⟩ }
  have hok3 : HOk X.prog X.w H1 Gh := fun b o z => by
    have hba : b ≠ a := ne_of_none z hn
    have q := hok b o (by rw [upd_ne hba]; exact z)
    have noa : ∀ {c : Addr}, upd H1 a (exo a C none) c = some (.own b) → c ≠ a := fun {c} hc => at_ne ea hc exo_own
    exact q.stay (fun c v hc y => by
        have hca : c ≠ a := by
          rcases hc with hc | hc
          · rw [hc]
            exact hba
          · exact noa hc
        exact (gk c hca).trans y)
      (fun c hc => by rw [upd_ne (noa hc)] at hc; exact hc) (fun c xs hc => by rw [upd_ne (at_ne ea hc exo_tup)] at hc; exact hc)
  exact ⟨t0, Gh, I1.call' (ch := []) ho U hok3 hb (fun b z => absurd z (by simp)), fun b o z => by
    by_cases hba : b = a
    · rw [hba, ge] at z; cases z
    · exact (gk b hba).symm.trans z, ge, hoe, hn⟩
/-- what __init__ of such a class does -/
def spI0 (K : PySem.W.Frag) : Sp := fun vs H Q _ => ∃ a C : Addr, vs = [.ref a] ∧ OexC K C ∧ H a = some (exo a C none) ∧ Q .non H
theorem pmk0 {x : Str} {C fI : Addr} {k : Nat} {fd : FuncData} {ps : List Str} {p pos : Pos} (T : OexC X.K C) (iC : PySem.W.findIn X.K (.ref C) "__init__" = some (some (.ref fI))) (tI : PySem.W.typeIn X.K (.ref fI) = some (.type "function"))
    (F1 : FnOk X.prog X.w X.K X.mg X.base (L2.CX X.prog X.w) k fI fd ps (spI0 X.K)) (hr : Room (k + 1) X.A) (hb : Binds X.K fd ps []) (hg : L2.Gl X x) (hm : X.mg x = some (.ref C)) (hdb : (x == ("__debug__" : Str)) = false) :
    PMk X (.Call (.Name x p) [] [] pos) (fun _ H Q => Q (.ref C) none H) := by
  intro pins s σ H Q I h
  obtain ⟨nm, q, N, bs, bm, sn, sub, ab, col, dd, k0, k1, k2, k3, k5, hC, hbm⟩ := T.cls
  refine wpAny_Call_Name_kw (ld_glob I hg hm ?_ hdb)
  refine PySem.W.callWith_K0 I.kIn T.kC ?_
  show wpAny _ _ (call (.ref C) []) _ _ _
  obtain ⟨hp, g, dr, tk, os⟩ := s
  have hsz : hp.objs.size ≤ hp.objs.size + 1 := Nat.le_succ _
  have hn : H (hp.objs.size + 1) = none := I.hok.fresh hsz
  have kk : ∀ b o, hp.get? b = some o → ((hp.push (PySem.W.kdv_tup [])).push (PySem.HandSPX.excO C hp.objs.size)).get? b = some o := fun b o e => Heap.get?_push_of_some _ (Heap.get?_push_of_some _ e)
  have hget : ((hp.push (PySem.W.kdv_tup [])).push (PySem.HandSPX.excO C hp.objs.size)).get? (hp.objs.size + 1) = some (PySem.HandSPX.excO C hp.objs.size) := by heap_get
  have I2 : Inv X pins σ (upd H (hp.objs.size + 1) (exo (hp.objs.size + 1) C none)) ⟨(hp.push (PySem.W.kdv_tup [])).push (PySem.HandSPX.excO C hp.objs.size), g, dr, tk, os⟩ :=
    I.laid (t' := tk) (a := hp.objs.size + 1) (o := exo (hp.objs.size + 1) C none) (h' := (hp.push (PySem.W.kdv_tup [])).push (PySem.HandSPX.excO C hp.objs.size)) kk hsz (exo_ok hget)
  have hq : spI0 X.K [V.ref (hp.objs.size + 1)] (upd H (hp.objs.size + 1) (exo (hp.objs.size + 1) C none)) (fun v H2 => v = .non ∧ H2 = upd H (hp.objs.size + 1) (exo (hp.objs.size + 1) C none)) (fun _ _ _ => False) := ⟨_, C, rfl, T, upd_same, rfl, rfl⟩
  have r2 : Vals [V.ref (hp.objs.size + 1)] [Value.ref (hp.objs.size + 1)] := .cons rfl .nil
  have hl : ([Value.ref (hp.objs.size + 1)] : List Value).length = ps.length := by
    have e := F1.len _ _ _ _ hq
    simpa using e
  have hb2 := hb ⟨(hp.push (PySem.W.kdv_tup [])).push (PySem.HandSPX.excO C hp.objs.size), g, dr, tk, os⟩ [Value.ref (hp.objs.size + 1)] I2.kIn (by rw [List.append_nil]; exact hl)
  rw [List.append_nil] at hb2
  refine wpAny_call (PySem.HandSPX.call_own F.excBase_ValueError (fun Y => PySem.HandSPX.refsVE_contains Y bm hbm) (I.kIn _ _ hC) (PySem.W.looks_findIn I.kIn iC) (fun self => PySem.W.bind_fn I.kIn self tI) (Nat.zero_le _)
    (codeAny_mono (F1.run _ X.stack _ _ ⟨[Value.ref (hp.objs.size + 1)], []⟩ [Value.ref (hp.objs.size + 1)] _ _ (fun _ _ _ => False) (hr.make C [] []) (I2.env0.make C [] []) hb2 r2 hq) fun r s' hq' => ?_))
  cases r with
  | error er =>
    obtain ⟨_, _, _, _, _, _, _, _, _, _, _, _, z⟩ := hq'
    exact False.elim z
  | ok fl =>
    cases fl with
    | ret u =>
      obtain ⟨v, H2, os2, bare2, un2, hok2, rv, ev, eH⟩ := hq'
      subst ev eH
      obtain ⟨h2, g2, d2, t2, os'⟩ := s'
      obtain ⟨t0, Gh, J, kG, ge, hoe, na⟩ := made0 (d2 := d2) (t2 := t2) I hsz kk un2 hok2 os2 bare2
      exact ⟨rv, _, _, _, ⟨Gh, g2, d2, t2, os'⟩, H, .ref C, none, rfl, J, kG, ge, hoe, ⟨rfl, rfl⟩, rfl, rfl, na, rfl, bare2, raises_own T.exC T.tyC, h⟩
    | next => exact False.elim hq'
    | brk => exact False.elim hq'
    | cont => exact False.elim hq'
def initB (msg : Str) (j : Nat) (p1 p2 p3 p4 p5 p6 : Pos) : List Stmt := [.Expr (.Call (.Attribute (.Name "ValueError" p1) "__init__" p2) [.Name "self" p3, .Constant (.str msg) j p4] [] p5) p6]
theorem init0_ok {P : Program} {w : World} {K : PySem.W.Frag} {mg : Str → Option Value} {base : Heap} {qual : Str} {params : Arguments} {scope : Scope} {f : Addr} {fd : FuncData} {msg : Str} {j : Nat} {p1 p2 p3 p4 p5 p6 : Pos} (F1 : FunD K "__init__" qual params (initB msg j p1 p2 p3 p4 p5 p6) scope [] [] f fd)
    (S0 : FnScope ["self"] ["self"] scope) (hg : scope.names.lookup ("ValueError" : Str) = some .globalImplicit) (hl : scope.names.lookup ("self" : Str) = some .local) (hm : mg "ValueError" = none) {pl : Env → Sem Bool}
    (hev : ∀ env : Env, eval (.Call (.Attribute (.Name "ValueError" p1) "__init__" p2) [.Name "self" p3, .Constant (.str msg) j p4] [] p5) env = (do
      let ov ← eval (.Name "ValueError" p1) env
      standAt p2.atName
      let (f, first) ← holding [ov] (getMethod ov "__init__" (pl env))
      callWith p5 f first (backTo p5 (starEach [.Name "self" p3, .Constant (.str msg) j p4] env)) (backToKw p5 (keywordEach [] env))))
    (vV : PySem.W.findCls K (.type "ValueError") (.type "type") "__init__" = some (.val (.builtin "ValueError.__init__"))) : FnOk P w K mg base (L2.CX P w) 1 f fd ["self"] (spI0 K) := by
  refine F1.ok S0 (fun vs H Q E ⟨a, C, e, _⟩ => by rw [e]; rfl) (fun cdv A outer s H vs Q E hr ⟨a, C, e, T, ha, q⟩ => ⟨_, PSs.nox (pss_one (ps_expr (pe_veinit hg hm vV (pa_cons (pe_var (i := 0) rfl (.inl hl)) (pa_cons pe_str pa_nil)) (hev _)))), ?_⟩)
  subst e
  exact ⟨_, rfl, a, C, [.str msg], rfl, by simp, T, ha, q⟩
end
end L2.MP
/-! MpX2: own exceptions with one or two fields are made. -/
namespace L2.MP
open PySem PySem.Spec PyProof.Rows
/-- what such an __init__ does -/
def spIF (K : PySem.W.Frag) (fs : List Str) : Sp := fun vs H Q _ => ∃ (a C : Addr) (ws : List V), vs = .ref a :: ws ∧ ws.length = fs.length ∧ OexC K C ∧ (∀ f ∈ fs, PySem.W.findIn K (.ref C) f = some none) ∧ H a = some (exo a C none) ∧
  ∀ (dx : Addr) (H2 : Hp), H dx = none → dx ≠ a → H2 a = some (exo a C (some dx)) → H2 dx = some (exd dx (fs.zip ws).reverse) → (∀ b, b ≠ a → b ≠ dx → H2 b = H b) → Q .non H2
def initB1 (msg f : Str) (j : Nat) (p1 p2 p3 p4 p5 p6 q1 q2 q3 q4 : Pos) : List Stmt := [.Expr (.Call (.Attribute (.Name "ValueError" p1) "__init__" p2) [.Name "self" p3, .Constant (.str msg) j p4] [] p5) p6, .Assign [.Attribute (.Name "self" q1) f q2] (.Name f q3) q4]
def initB2 (msg f g : Str) (j : Nat) (p1 p2 p3 p4 p5 p6 q1 q2 q3 q4 r1 r2 r3 r4 : Pos) : List Stmt := [.Expr (.Call (.Attribute (.Name "ValueError" p1) "__init__" p2) [.Name "self" p3, .Constant (.str msg) j p4] [] p5) p6, .Assign [.Attribute (.Name "self" q1) f q2] (.Name f q3) q4, .Assign [.Attribute (.Name "self" r1) g r2] (.Name g r3) r4]
theorem debug_f {f : Str} {fs ps : List Str} {scope : Scope} (h : ∀ y ∈ ps, (y == ("__debug__" : Str)) = false ∧ (y == ("__classdict__" : Str)) = false) (hm : f ∈ ps) : (f == ("__debug__" : Str)) = false ∧ (f == ("__classdict__" : Str)) = false := h f hm
section
variable {P : Program} {w : World} {K : PySem.W.Frag} {mg : Str → Option Value} {base : Heap} {qual : Str} {params : Arguments} {scope : Scope} {fI : Addr} {fd : FuncData} {msg f g : Str} {j : Nat} {p1 p2 p3 p4 p5 p6 q1 q2 q3 q4 r1 r2 r3 r4 : Pos} {pl : Env → Sem Bool}
theorem init1_ok (F1 : FunD K "__init__" qual params (initB1 msg f j p1 p2 p3 p4 p5 p6 q1 q2 q3 q4) scope [] [] fI fd)
    (S0 : FnScope ["self", f] ["self", f] scope) (hg : scope.names.lookup ("ValueError" : Str) = some .globalImplicit) (hl : scope.names.lookup ("self" : Str) = some .local) (hlf : scope.names.lookup f = some .local) (hm : mg "ValueError" = none)
    (hev : ∀ env : Env, eval (.Call (.Attribute (.Name "ValueError" p1) "__init__" p2) [.Name "self" p3, .Constant (.str msg) j p4] [] p5) env = (do
      let ov ← eval (.Name "ValueError" p1) env
      standAt p2.atName
      let (f, first) ← holding [ov] (getMethod ov "__init__" (pl env))
      callWith p5 f first (backTo p5 (starEach [.Name "self" p3, .Constant (.str msg) j p4] env)) (backToKw p5 (keywordEach [] env))))
    (hdf : (f == ("__debug__" : Str)) = false ∧ (f == ("__classdict__" : Str)) = false)
    (vV : PySem.W.findCls K (.type "ValueError") (.type "type") "__init__" = some (.val (.builtin "ValueError.__init__"))) : FnOk P w K mg base (L2.CX P w) 1 fI fd ["self", f] (spIF K [f]) := by
  refine F1.ok S0 (fun vs H Q E ⟨a, C, ws, e, hl, _⟩ => by rw [e]; simp [hl]) (fun cdv A outer s H vs Q E hr ⟨a, C, ws, e, hwl, T, hno, ha, q⟩ => ⟨_, PSs.nox (pss_cons (ps_expr (pe_veinit hg hm vV (pa_cons (pe_var (i := 0) rfl (.inl hl)) (pa_cons pe_str pa_nil)) (hev _))) (pss_one (ps_ost (pe_var (i := 0) rfl (.inl hl)) (pe_var (i := 1) rfl (.inl hlf) hdf.1 hdf.2)))), ?_⟩)
  subst e
  obtain ⟨y, rfl⟩ : ∃ y, ws = [y] := by
    match ws, hwl with
    | [y], _ => exact ⟨y, rfl⟩
  refine ⟨_, rfl, a, C, [.str msg], rfl, by simp, T, ha, ?_⟩
  refine ⟨y, rfl, .ref a, rfl, a, C, rfl, T, hno f (by simp), .inl ⟨ha, fun dx hd hne => q dx _ hd hne upd_same ?_ fun b h1 h2 => ?_⟩⟩
  · rw [upd_ne hne, upd_same]
    rfl
  · rw [upd_ne h1, upd_ne h2]
theorem init2_ok (F1 : FunD K "__init__" qual params (initB2 msg f g j p1 p2 p3 p4 p5 p6 q1 q2 q3 q4 r1 r2 r3 r4) scope [] [] fI fd)
    (S0 : FnScope ["self", f, g] ["self", f, g] scope) (hg : scope.names.lookup ("ValueError" : Str) = some .globalImplicit) (hl : scope.names.lookup ("self" : Str) = some .local) (hlf : scope.names.lookup f = some .local) (hlg : scope.names.lookup g = some .local) (hm : mg "ValueError" = none)
    (hev : ∀ env : Env, eval (.Call (.Attribute (.Name "ValueError" p1) "__init__" p2) [.Name "self" p3, .Constant (.str msg) j p4] [] p5) env = (do
      let ov ← eval (.Name "ValueError" p1) env
      standAt p2.atName
      let (f, first) ← holding [ov] (getMethod ov "__init__" (pl env))
      callWith p5 f first (backTo p5 (starEach [.Name "self" p3, .Constant (.str msg) j p4] env)) (backToKw p5 (keywordEach [] env))))
    (hdf : (f == ("__debug__" : Str)) = false ∧ (f == ("__classdict__" : Str)) = false) (hdg : (g == ("__debug__" : Str)) = false ∧ (g == ("__classdict__" : Str)) = false)
    (vV : PySem.W.findCls K (.type "ValueError") (.type "type") "__init__" = some (.val (.builtin "ValueError.__init__"))) : FnOk P w K mg base (L2.CX P w) 1 fI fd ["self", f, g] (spIF K [f, g]) := by
  refine F1.ok S0 (fun vs H Q E ⟨a, C, ws, e, hl, _⟩ => by rw [e]; simp [hl]) (fun cdv A outer s H vs Q E hr ⟨a, C, ws, e, hwl, T, hno, ha, q⟩ => ⟨_, PSs.nox (pss_cons (ps_expr (pe_veinit hg hm vV (pa_cons (pe_var (i := 0) rfl (.inl hl)) (pa_cons pe_str pa_nil)) (hev _)))
    (pss_cons (ps_ost (pe_var (i := 0) rfl (.inl hl)) (pe_var (i := 1) rfl (.inl hlf) hdf.1 hdf.2)) (pss_one (ps_ost (pe_var (i := 0) rfl (.inl hl)) (pe_var (i := 2) rfl (.inl hlg) hdg.1 hdg.2))))), ?_⟩)
  subst e
  obtain ⟨y, z, rfl⟩ : ∃ y z, ws = [y, z] := by
    match ws, hwl with
    | [y, z], _ => exact ⟨y, z, rfl⟩
  refine ⟨_, rfl, a, C, [.str msg], rfl, by simp, T, ha, ?_⟩
  refine ⟨y, rfl, .ref a, rfl, a, C, rfl, T, hno f (by simp), .inl ⟨ha, fun dx hd hne => ?_⟩⟩
  refine ⟨z, rfl, .ref a, rfl, a, C, rfl, T, hno g (by simp), .inr ⟨dx, [(f, y)], upd_same, by rw [upd_ne hne, upd_same], by simp, q dx _ hd hne ?_ ?_ fun b h1 h2 => ?_⟩⟩
  · rw [upd_ne hne.symm, upd_same]
  · rw [upd_same]
    rfl
  · rw [upd_ne h2, upd_ne h1, upd_ne h2]
end
section
variable {X : Cx}
theorem pmkF {x : Str} {C fI : Addr} {k : Nat} {fd : FuncData} {ps fs : List Str} {p pos : Pos} {e : Expr} {es : List Expr} {ta : TA} {ec : EC} {c : Nat} (hec : ec c = .ref C) (hne : fs ≠ []) (hlen : fs.length ≤ 1000) (T : OexC X.K C) (iC : PySem.W.findIn X.K (.ref C) "__init__" = some (some (.ref fI))) (tI : PySem.W.typeIn X.K (.ref fI) = some (.type "function"))
    (F1 : FnOk X.prog X.w X.K X.mg X.base (L2.CX X.prog X.w) k fI fd ps (spIF X.K fs)) (hno : ∀ f ∈ fs, PySem.W.findIn X.K (.ref C) f = some none) (hr : Room (k + 1) X.A) (hb : Binds X.K fd ps []) (hg : L2.Gl X x) (hm : X.mg x = some (.ref C)) (hdb : (x == ("__debug__" : Str)) = false) (ha : PA X (e :: es) ta)
    (he : starEach (e :: es) X.env = (false, eval e X.env) :: starEach es X.env) (hpl : (backTo pos (starEach es X.env)).any (·.1) = false) : PMk X (.Call (.Name x p) (e :: es) [] pos) (tMkX ec fs c ta) := by
  have hx : Passes (L2.CX X.prog X.w) X (fun _ _ _ => False) := fun pins σ H s u s' _ ⟨_, _, _, _, _, _, _, _, _, _, _, _, z⟩ => False.elim z
  have main := pmk_oex (pos := pos) (p := p) T iC tI F1 hr hb .nil hx hg hm (pa_am (X := X) (es := e :: es)) hdb he hpl
  intro pins s σ H Q I h
  have hA := AM.of ha h
  refine main pins s σ H Q I fun pos pins s I => thn (hA pos pins s I) ?_
  rintro us s1 ⟨vs, H1, I1, r, hl, q⟩
  refine ⟨vs, H1, I1, r, by omega, fun a hn => ?_⟩
  have hq : ∀ d, H1 d = none → Q (ec c) (some d) (upd H1 d (.xd (fs.zip vs).reverse)) := by
    rcases q with ⟨z, _⟩ | ⟨_, q⟩
    · exact absurd z hne
    · exact q
  refine ⟨a, C, vs, by simp, hl, T, hno, upd_same, fun dx H2 h1 h2 h3 h4 h5 => ⟨rfl, dx, _, h3, h4, ?_, ?_⟩⟩
  · rwa [upd_ne h2] at h1
  · have hd1 : H1 dx = none := by rwa [upd_ne h2] at h1
    have e : upd (del H2 a) dx (.xd (fs.zip vs).reverse) = upd H1 dx (.xd (fs.zip vs).reverse) := by
      funext b
      by_cases hbd : b = dx
      · rw [hbd, upd_same, upd_same]
      · rw [upd_ne hbd, upd_ne hbd]
        by_cases hba : b = a
        · rw [hba, del_same, hn]
        · rw [del_ne hba, h5 b hba hbd, upd_ne hba]
    rw [e, ← hec]
    exact hq dx hd1
end
end L2.MP
/-! MpH: a head's hook with a check of one's own. -/
namespace L2.MP
open PySem PySem.Spec PyProof.Rows
/-- the objects that the module's names reach, and the table of modules -/
def asX (g : Addr → Option Obj) (n : Nat) : List Addr := He.asD g n ++ [sysModules]
def obsXG (n : Nat) (fa : List He.Fa) (fn : List He.DefD) (xk : PySem.W.Frag → Bool) (g : Addr → Option Obj) : Bool × He.AlD := (xk (He.frG g (asX g n)), He.obsD fa fn (He.frG g (asX g n)))
def hookX (n : Nat) (fa : List He.Fa) (fn : List He.DefD) (xk : PySem.W.Frag → Bool) : PySem.W.Hook where
  α := Bool × He.AlD
  obs := fun s => obsXG n fa fn xk s.heap.get?
  val := fun _ => (true, He.valD fn)
  says := fun _ h => ∃ K : PySem.W.Frag, K.In h ∧ He.SaysD fa fn K ∧ xk K = true
  of := fun _ s e => ⟨He.frG s.heap.get? (asX s.heap.get? n), He.frG_in, congrArg Prod.snd e, congrArg Prod.fst e⟩
  keeps := fun _ _ _ ⟨K, hK, c, x⟩ k => ⟨K, PySem.W.Frag.In.keeps hK k, c, x⟩
theorem obsXG_eq {n : Nat} {fa : List He.Fa} {fn : List He.DefD} {xk : PySem.W.Frag → Bool} {g : Addr → Option Obj} {s : Shared} (h : ∀ a, g a = s.heap.get? a) : obsXG n fa fn xk g = (hookX n fa fn xk).obs s := by
  have e : g = s.heap.get? := funext h
  rw [e] <;> rfl
/-- the start of a law: no nodes, the script -/
def rc0 (B : RB) (H : Hp) : RC := ⟨B, H, fun _ => 0, [], fun _ => False⟩
theorem rep0 (B : RB) (H : Hp) : Rep (rc0 B H) := ⟨fun i j hi _ _ => absurd hi (Nat.not_lt_zero _), fun i nd h => by simp [rc0] at h, fun i nd h => by simp [rc0] at h, fun a h => False.elim h⟩
theorem scr0 {B : RB} {H : Hp} {a : Addr} {ns : List Int} (h : SqL B.K H a (ns.map V.int)) : RVs (rc0 B H) [.scr ns] [.ref a] := by
  refine RVs.cons ?_ RVs.nil
  simp only [RV]
  refine ⟨a, rfl, ?_⟩
  rcases h with h | h
  · refine .inl ⟨h, ?_⟩
    rintro (⟨i, xs, q, _⟩ | q)
    · simp [rc0] at q
    · exact q
  · exact .inr h
/-- the law's promise from the evaluator's answer -/
theorem sp0 {ec : EC} {K : PySem.W.Frag} {fl : Nat → List Str} {g : List D → Hs → MP.R D} {H : Hp} {a : Addr} {ns : List Int} (hS : SqL K H a (ns.map V.int)) {h : Hs} (hg : g [.scr ns] [] = .ok (.bl true) h) :
    spOf ec K fl 1 g [.ref a] H (fun v _ => v = .bl true) fun _ _ _ => False := by
  refine ⟨rc0 ⟨K, fl, none⟩ H, [.scr ns], rfl, rfl, rfl, rfl, rep0 _ _, scr0 hS, rfl, ?_⟩
  show GV ec _ [] _ _ (g [.scr ns] [])
  rw [hg]
  exact fun r' b n e R q => rv_bl q
/-! ### the classes of exceptions, by a check -/
def oexB (K : PySem.W.Frag) (C : Addr) : Bool := (match K.lookup C with
  | some ⟨.type "type", _, .cls cd, sl⟩ => (match cd.mro, sl.toList with
    | .ref C' :: bm, [_, _, _, _, some (.builtin n), _] => C' == C && n == "ValueError.__new__" && !cd.hasDel && cd.hasDict && PySem.HandSPX.refsVE bm
    | _, _ => false)
  | _ => false) && He.eqO (PySem.W.findIn K (.ref C) "__setattr__") (some (some (.builtin "object.__setattr__"))) && decide (PySem.W.subIn K (.ref C) (.type "BaseException") = some true) && decide (PySem.W.typeIn K (.ref C) = some (.type "type")) && PySem.W.keepIn K (.ref C)
theorem oexB_ok {K : PySem.W.Frag} {C : Addr} (h : oexB K C = true) : OexC K C := by
  unfold oexB at h
  simp only [Bool.and_eq_true] at h
  obtain ⟨⟨⟨⟨q, h1⟩, h2⟩, h3⟩, h4⟩ := h
  refine ⟨?_, He.eqO_ok h1, of_decide_eq_true h2, of_decide_eq_true h3, h4⟩
  split at q
  · rename_i dd cd sl ho
    split at q
    · rename_i C' bm k0 k1 k2 k3 n k5 hm hs
      simp only [Bool.and_eq_true, beq_iff_eq, Bool.not_eq_true'] at q
      obtain ⟨⟨⟨⟨rfl, rfl⟩, hdel⟩, hdi⟩, hbm⟩ := q
      obtain ⟨nm, bs, mro, ns, qn, hd, sn, sub, ab, col, del⟩ := cd
      dsimp only at hm hdel hdi
      subst hm hdel hdi
      have hsl : sl = #[k0, k1, k2, k3, some (.builtin "ValueError.__new__"), k5] := by
        obtain ⟨l⟩ := sl
        simp only at hs
        rw [hs]
      subst hsl
      exact ⟨nm, qn, ns, bs, bm, sn, sub, ab, col, dd, k0, k1, k2, k3, k5, ho, hbm⟩
    · cases q
  · cases q
def excB (K : PySem.W.Frag) (D : Addr) : Bool := He.eqO (PySem.W.findIn K (.ref D) "__getattribute__") (some (some (.builtin "BaseException.__getattribute__"))) && He.eqO (PySem.W.findIn K (.ref D) "__getattr__") (some none) && decide (PySem.W.subIn K (.ref D) (.type "BaseException") = some true) && PySem.W.hasDictIn K D &&
  He.eqO (PySem.W.findIn K (.ref D) "__class__") (some (some (.builtin "object.__class__"))) && He.eqO (PySem.W.specialIn K (.builtin "object.__class__") "__get__") (some (some (.builtin "getset_descriptor.__get__"))) && decide (PySem.W.takesIn K (.builtin "object.__class__") = some true) && decide (PySem.W.mroIn K D (.type "object") = some true)
theorem excB_ok {K : PySem.W.Frag} {D : Addr} (h : excB K D = true) : ExcC K D := by
  unfold excB at h
  simp only [Bool.and_eq_true] at h
  obtain ⟨⟨⟨⟨⟨⟨⟨h1, h2⟩, h3⟩, h4⟩, h5⟩, h6⟩, h7⟩, h8⟩ := h
  exact ⟨He.eqO_ok h1, He.eqO_ok h2, of_decide_eq_true h3, h4, He.eqO_ok h5, He.eqO_ok h6, of_decide_eq_true h7, of_decide_eq_true h8⟩
end L2.MP
/-! MpH2: the facts of a program from one check. -/
namespace L2.MP
open PySem PySem.Spec PyProof.Rows
def biL : List Str := ["len", "tuple", "list", "all", "any", "sum", "max", "min", "isinstance", "range", "enumerate", "zip", "int", "bool", "str", "dict", "repr", "ValueError", "KeyError", "OverflowError"]
theorem biN_mem {x : Str} (h : biN x = true) : x ∈ biL := by
  unfold biN at h
  rw [Bool.or_eq_true] at h
  rcases h with h | h
  · unfold bi? at h
    repeat' split at h
    all_goals first | (cases h; done) | skip
    all_goals subst_vars
    all_goals decide +kernel
  · simp only [memS, Bool.or_eq_true, decide_eq_true_eq, Bool.or_false] at h
    rcases h with h | h | h | h | h | h | h | h | h | h | h | h | h | h <;> subst h <;> decide +kernel
def excVB : List String := ["ValueError", "KeyError", "OverflowError"]
def xkB (A : List Str) (Bs : List String) (Z : List Str) (fls : List (List (List Nat))) (K : PySem.W.Frag) : Bool := (Z.all fun x => oexB K (He.ga K x) && He.eqO (PySem.W.findIn K (.ref (He.ga K x)) "__init__") (some (some (.ref (He.ma K (He.ga K x) "__init__")))) && decide (PySem.W.typeIn K (.ref (He.ma K (He.ga K x) "__init__")) = some (.type "function"))) &&
  (A.all fun x => excB K (He.ga K x)) &&
  (A.all fun x => A.all fun y => decide (PySem.W.exmOne K (.ref (He.ga K x)) (.ref (He.ga K y)) = some (decide (x = y))) && decide (PySem.W.kitOne K (.ref (He.ga K x)) (.ref (He.ga K y)) = some (decide (x = y)))) &&
  ((A.zip Bs).all fun q => excVB.all fun t => decide (PySem.W.kitOne K (.ref (He.ga K q.1)) (.type t) = some (q.2 == t))) &&
  (biL.all fun x => He.eqO (PySem.W.nsIn K mainGlobals x) (some none)) &&
  ((A.zip fls).all fun q => q.2.all fun n => He.eqO (PySem.W.findIn K (.ref (He.ga K q.1)) (⟨n.toArray⟩ : Str)) (some none)) &&
  (match K.lookup sysModules with | some o => decide (o.cls = .type "dict") | none => false) &&
  (match PySem.W.findCls K (.type "ValueError") (.type "type") "__init__" with | some (.val (.builtin "ValueError.__init__")) => true | _ => false)
def ecOf (A : List Str) (K : PySem.W.Frag) : EC := fun c => match A[c]? with
  | some x => .ref (He.ga K x)
  | none => .none
theorem nd_ix {A : List Str} (hn : A.Nodup) {c c' : Nat} {x x' : Str} (h : A[c]? = some x) (h' : A[c']? = some x') : (x = x') ↔ c = c' := by
  constructor
  · rintro rfl
    obtain ⟨h1, e1⟩ := List.getElem?_eq_some_iff.mp h
    obtain ⟨h2, e2⟩ := List.getElem?_eq_some_iff.mp h'
    have pw := List.pairwise_iff_getElem.mp hn
    rcases Nat.lt_trichotomy c c' with hl | hl | hl
    · exact absurd (e1.trans e2.symm) (pw c c' h1 h2 hl)
    · exact hl
    · exact absurd (e2.trans e1.symm) (pw c' c h2 h1 hl)
  · rintro rfl
    rw [h] at h'
    exact Option.some.inj h'
theorem wf0_of {cf : Cf} {G : Gl} {A Z : List Str} {P : Program} {w : World} {K : PySem.W.Frag} {fl : Nat → List Str} {h : Heap} {mg : Str → Option Value} {base : Heap} (XK : K.In h) (GK : h.Ns mainGlobals mg) (hx : xkB A G.exb Z G.fls K = true) (hA : cf.exs = A) (hn : A.Nodup) (hl : A.length = G.exb.length)
    (hd : ∀ x ∈ A, (x == ("__debug__" : Str)) = false) (hglo : ∀ x ∈ A, mg x = some (.ref (He.ga K x)))
    (hgl : ∀ (i : Nat) (x : Str) (d : D), cf.gls[i]? = some x → G.gls[i]? = some d → (x == ("__debug__" : Str)) = false ∧ ∃ v u, mg x = some u ∧ RelV v u ∧ ∀ r : RC, r.B.K = K → RV r d v)
    (hfl : ∀ (c : Nat) (x : Str), cf.exs[c]? = some x → G.flc[c]? = some (fl c).length)
    (hars : ∀ (c m : Nat), cf.ars[c]? = some (some m) → (fl c).length = m)
    (hfls : ∀ (c : Nat) (x : Str), cf.exs[c]? = some x → ∃ ns, G.fls[c]? = some ns ∧ fl c = ns.map (fun n => (⟨n.toArray⟩ : Str)) ∧ ns.Nodup)
    (hmk : ∀ (X : Cx), X.prog = P → X.w = w → X.K = K → X.mg = mg → X.base = base → X.calm = true → Room 3 X.A → ∀ (c : Nat) (x : Str) (m : Nat) (p pos : Pos), cf.exs[c]? = some x → cf.ars[c]? = some (some m) → L2.Gl X x → MkOk (ecOf A K) fl X c x m p pos) :
    WF0 cf G (ecOf A K) P w K fl mg base := by
  unfold xkB at hx
  simp only [Bool.and_eq_true] at hx
  obtain ⟨⟨⟨⟨⟨⟨⟨x1, x2⟩, x3⟩, x4⟩, x5⟩, xf⟩, xs⟩, x6⟩ := hx
  have ecx : ∀ {c : Nat} {x : Str}, cf.exs[c]? = some x → ecOf A K c = .ref (He.ga K x) ∧ x ∈ A := fun {c x} hc => by
    rw [hA] at hc
    exact ⟨by unfold ecOf; rw [hc], List.mem_of_getElem? hc⟩
  have pair : ∀ {c c' : Nat} {x x' : Str}, cf.exs[c]? = some x → cf.exs[c']? = some x' → PySem.W.exmOne K (ecOf A K c) (ecOf A K c') = some (decide (c = c')) ∧ PySem.W.kitOne K (ecOf A K c) (ecOf A K c') = some (c == c') := fun {c c' x x'} h1 h2 => by
    obtain ⟨e1, m1⟩ := ecx h1
    obtain ⟨e2, m2⟩ := ecx h2
    have q := List.all_eq_true.mp (List.all_eq_true.mp x3 x m1) x' m2
    rw [Bool.and_eq_true] at q
    have iff := nd_ix hn (by rw [← hA]; exact h1) (by rw [← hA]; exact h2)
    rw [e1, e2, of_decide_eq_true q.1, of_decide_eq_true q.2]
    have hb : (c == c') = decide (c = c') := Bool.beq_eq_decide_eq c c'
    rw [hb]
    simp only [iff]
    exact ⟨trivial, trivial⟩
  refine ⟨hgl, fun x hb _ _ => ?_, fun c x hc => ?_, hmk, hars, hfls, fun c x hc a ha f hf => ?_, fun c hc => ?_, hfl, fun c x hc => ⟨fun a ha => ?_, fun c' x' hc' => (pair hc hc').2, fun s t hs ht => ?_⟩, ?_, fun c c' x x' h1 h2 => (pair h1 h2).1⟩
  · exact PySem.W.mg_none_of XK GK (He.eqO_ok (List.all_eq_true.mp x5 x (biN_mem hb)))
  · obtain ⟨e1, m1⟩ := ecx hc
    exact ⟨hd x m1, _, hglo x m1, e1⟩
  · obtain ⟨e1, m1⟩ := ecx hc
    rw [e1] at ha
    cases ha
    obtain ⟨ns, h1, h2, _⟩ := hfls c x hc
    rw [h2] at hf
    obtain ⟨n, hn1, rfl⟩ := List.mem_map.mp hf
    have hz : (A.zip G.fls)[c]? = some (x, ns) := by
      rw [hA] at hc
      rw [List.getElem?_zip_eq_some]
      exact ⟨hc, h1⟩
    exact He.eqO_ok (List.all_eq_true.mp (List.all_eq_true.mp xf (x, ns) (List.mem_of_getElem? hz)) n hn1)
  · rw [← hl] at hc
    exact ⟨A[c], by rw [hA]; exact List.getElem?_eq_getElem hc⟩
  · obtain ⟨e1, m1⟩ := ecx hc
    rw [e1] at ha
    cases ha
    exact excB_ok (List.all_eq_true.mp x2 x m1)
  · obtain ⟨e1, m1⟩ := ecx hc
    have hz : (A.zip G.exb)[c]? = some (x, t) := by
      rw [hA] at hc
      rw [List.getElem?_zip_eq_some]
      exact ⟨hc, ht⟩
    have q := List.all_eq_true.mp x4 (x, t) (List.mem_of_getElem? hz)
    have hs2 : s ∈ excVB := by
      rcases hs with rfl | rfl | rfl <;> decide
    rw [e1]
    exact of_decide_eq_true (List.all_eq_true.mp q s hs2)
  · cases q : K.lookup sysModules with
    | none => rw [q] at xs; cases xs
    | some o => rw [q] at xs; exact ⟨o, rfl, of_decide_eq_true xs⟩
end L2.MP
/-! MpH3: exceptions made. -/
namespace L2.MP
open PySem PySem.Spec PyProof.Rows
/-- what the __init__ of a class with the fields fs does -/
def spIn (K : PySem.W.Frag) (fs : List Str) : Sp := match fs with
  | [] => spI0 K
  | f :: fs => spIF K (f :: fs)
/-- a class of Z with its __init__ -/
def ZOk (K : PySem.W.Frag) (mg : Str → Option Value) (x : Str) (fs : List Str) : Prop := fs.length ≤ 1000 ∧ ∃ (fd : FuncData) (ps : List Str), Binds K fd ps [] ∧ ∀ (P : Program) (w : World) (base : Heap), mg "ValueError" = none →
  PySem.W.findCls K (.type "ValueError") (.type "type") "__init__" = some (.val (.builtin "ValueError.__init__")) → FnOk P w K mg base (L2.CX P w) 1 (He.ma K (He.ga K x) "__init__") fd ps (spIn K fs)
theorem mk_z {cf : Cf} {A : List Str} {Bs : List String} {Z : List Str} {fls : List (List (List Nat))} {P : Program} {w : World} {K : PySem.W.Frag} {fl : Nat → List Str} {h : Heap} {mg : Str → Option Value} {base : Heap} (XK : K.In h) (GK : h.Ns mainGlobals mg) (hx : xkB A Bs Z fls K = true) (hA : cf.exs = A)
    (hd : ∀ x ∈ A, (x == ("__debug__" : Str)) = false) (hglo : ∀ x ∈ A, mg x = some (.ref (He.ga K x))) (hars : ∀ (c m : Nat), cf.ars[c]? = some (some m) → (fl c).length = m)
    (hZ : ∀ (c : Nat) (x : Str) (m : Nat), cf.exs[c]? = some x → cf.ars[c]? = some (some m) → x ∈ Z ∧ ZOk K mg x (fl c))
    (hno : ∀ (c : Nat) (x : Str), cf.exs[c]? = some x → ∀ f ∈ fl c, PySem.W.findIn K (.ref (He.ga K x)) f = some none)
    (X : Cx) (a1 : X.prog = P) (a2 : X.w = w) (a3 : X.K = K) (a4 : X.mg = mg) (a5 : X.base = base) (hc : X.calm = true) (hr : Room 3 X.A) (c : Nat) (x : Str) (m : Nat) (p pos : Pos) (hcx : cf.exs[c]? = some x) (har : cf.ars[c]? = some (some m)) (hg : L2.Gl X x) : MkOk (ecOf A K) fl X c x m p pos := by
  have hlen := hars c m har
  obtain ⟨hz, h1000, fd, ps, hb, hF⟩ := hZ c x m hcx har
  have hno := hno c x hcx
  unfold xkB at hx
  simp only [Bool.and_eq_true] at hx
  obtain ⟨⟨⟨⟨⟨⟨⟨x1, x2⟩, x3⟩, x4⟩, x5⟩, xf⟩, xs⟩, x6⟩ := hx
  subst a1 a2 a3 a4 a5
  have z := List.all_eq_true.mp x1 x hz
  simp only [Bool.and_eq_true] at z
  obtain ⟨⟨z1, z2⟩, z3⟩ := z
  have hve : X.mg ("ValueError" : Str) = none := PySem.W.mg_none_of XK GK (He.eqO_ok (List.all_eq_true.mp x5 _ (by decide +kernel)))
  have vV : PySem.W.findCls X.K (.type "ValueError") (.type "type") "__init__" = some (.val (.builtin "ValueError.__init__")) := by
    split at x6
    · assumption
    · cases x6
  have F2 := hF X.prog X.w X.base hve vV
  have m1 : x ∈ A := by rw [← hA]; exact List.mem_of_getElem? hcx
  have ece : ecOf A X.K c = .ref (He.ga X.K x) := by
    rw [hA] at hcx
    unfold ecOf
    rw [hcx]
  refine ⟨fun h0 => ?_, fun hn e es ta ha he hpl => ?_⟩
  · have hf : fl c = [] := List.length_eq_zero_iff.mp (hlen.trans h0)
    rw [hf] at F2
    intro pins s σ H Q I ⟨_, hq⟩
    rcases hq with ⟨_, hq⟩ | ⟨hne, _⟩
    · refine pmk0 (oexB_ok z1) (He.eqO_ok z2) (of_decide_eq_true z3) F2 (Room.down hr (by omega)) hb hg (hglo x m1) (hd x m1) pins s σ H Q I ?_
      rw [← ece]
      exact hq
    · exact absurd hf hne
  · have hf : fl c ≠ [] := fun z => hn (by rw [← hlen, z]; rfl)
    have F3 : FnOk X.prog X.w X.K X.mg X.base (L2.CX X.prog X.w) 1 (He.ma X.K (He.ga X.K x) "__init__") fd ps (spIF X.K (fl c)) := by
      cases q : fl c with
      | nil => exact absurd q hf
      | cons f fs =>
        rw [q] at F2
        exact F2
    exact pmkF ece hf h1000 (oexB_ok z1) (He.eqO_ok z2) (of_decide_eq_true z3) F3 hno (Room.down hr (by omega)) hb hg (hglo x m1) (hd x m1) ha he hpl
end L2.MP
/-! MpH4: constants of the module; the text of an __init__. -/
namespace L2.MP
open PySem PySem.Spec PyProof.Rows
def allB {α β : Type} (f : α → β → Bool) : List α → List β → Bool
  | [], [] => true
  | x :: xs, y :: ys => f x y && allB f xs ys
  | _, _ => false
def rvB (K : PySem.W.Frag) : Nat → D → Value → Bool
  | 0, _, _ => false
  | n + 1, d, u => match d, u with
    | .non, .none => true
    | .bl b, .bool c => b == c
    | .int i, .int j _ => decide (j = i)
    | .str s, .str z _ => decide (z = ⟨s.toArray⟩) && okB s
    | .tup xs, .ref a => (match K.lookup a with
      | some ⟨.type c, _, .seq its _, _⟩ => decide (c = "tuple") && (decide (its.size ≤ sizeLine) && allB (rvB K n) xs its.toList)
      | _ => false)
    | _, _ => false
theorem rvB_ok {K : PySem.W.Frag} : ∀ {n : Nat} {d : D} {u : Value}, rvB K n d u = true → ∃ v, RelV v u ∧ ∀ r : RC, r.B.K = K → RV r d v
  | 0, _, _, h => by cases h
  | n + 1, d, u, h => by
    have go : ∀ (xs : List D) (us : List Value), allB (rvB K n) xs us = true → ∃ vs, Vals vs us ∧ ∀ r : RC, r.B.K = K → RVs r xs vs := fun xs => by
      induction xs with
      | nil =>
        intro us h
        cases us with
        | nil => exact ⟨[], .nil, fun r _ => RVs.nil⟩
        | cons => cases h
      | cons x xs ih =>
        intro us h
        cases us with
        | nil => cases h
        | cons u us =>
          obtain ⟨h1, h2⟩ := He.ba (show (rvB K n x u && allB (rvB K n) xs us) = true from h)
          obtain ⟨v, r1, q1⟩ := rvB_ok h1
          obtain ⟨vs, r2, q2⟩ := ih us h2
          exact ⟨v :: vs, .cons r1 r2, fun r e => RVs.cons (q1 r e) (q2 r e)⟩
    cases d with
    | non => cases u with
      | none => exact ⟨.non, rfl, fun r _ => mk_non⟩
      | _ => cases h
    | bl b => cases u with
      | bool c =>
        have e : b = c := eq_of_beq (show (b == c) = true from h)
        subst e
        exact ⟨.bl b, rfl, fun r _ => mk_bl _⟩
      | _ => cases h
    | int i => cases u with
      | int j t =>
        have e : j = i := of_decide_eq_true h
        subst e
        exact ⟨.int j, ⟨t, rfl⟩, fun r _ => mk_int _⟩
      | _ => cases h
    | str s => cases u with
      | str z t =>
        obtain ⟨h1, h2⟩ := He.ba (show (decide (z = ⟨s.toArray⟩) && okB s) = true from h)
        have e := of_decide_eq_true h1
        subst e
        exact ⟨.str ⟨s.toArray⟩, ⟨t, rfl⟩, fun r _ => mk_str (okB_ok h2)⟩
      | _ => cases h
    | tup xs => cases u with
      | ref a =>
        have h1 : (match K.lookup a with
          | some ⟨.type c, _, .seq its _, _⟩ => decide (c = "tuple") && (decide (its.size ≤ sizeLine) && allB (rvB K n) xs its.toList)
          | _ => false) = true := h
        cases q : K.lookup a with
        | none => rw [q] at h1; cases h1
        | some o =>
          obtain ⟨oc, od, dt, osl⟩ := o
          rw [q] at h1
          cases oc with
          | type c =>
            cases dt with
            | seq its m =>
              obtain ⟨h2, h3⟩ := He.ba (show (decide (c = "tuple") && (decide (its.size ≤ sizeLine) && allB (rvB K n) xs its.toList)) = true from h1)
              obtain ⟨h4, h5⟩ := He.ba h3
              obtain ⟨vs, r2, q2⟩ := go xs _ h5
              refine ⟨.ref a, rfl, fun r e => ?_⟩
              simp only [RV]
              exact ⟨a, vs, rfl, .inr ⟨_, its, m, by rw [e]; exact q, congrArg Value.type (of_decide_eq_true h2), rfl, of_decide_eq_true h4, r2⟩, q2 r e⟩
            | _ => cases h1
          | _ => cases dt <;> cases h1
      | _ => cases h
    | _ => cases u <;> cases h
/-- the module's constants -/
def glsB (ns : List Str) (ds : List D) (K : PySem.W.Frag) : Bool := (ns.zip ds).all fun q => !(q.1 == ("__debug__" : Str)) && (match PySem.W.nsIn K mainGlobals q.1 with
  | some (some u) => rvB K 10 q.2 u
  | _ => false)
theorem glsB_ok {ns : List Str} {ds : List D} {K : PySem.W.Frag} {h : Heap} {mg : Str → Option Value} (XK : K.In h) (GK : h.Ns mainGlobals mg) (hg : glsB ns ds K = true) :
    ∀ (i : Nat) (x : Str) (d : D), ns[i]? = some x → ds[i]? = some d → (x == ("__debug__" : Str)) = false ∧ ∃ v u, mg x = some u ∧ RelV v u ∧ ∀ r : RC, r.B.K = K → RV r d v := fun i x d hx hd => by
  have hz : (ns.zip ds)[i]? = some (x, d) := by
    rw [List.getElem?_zip_eq_some]
    exact ⟨hx, hd⟩
  obtain ⟨h1, h2⟩ := He.ba (List.all_eq_true.mp hg (x, d) (List.mem_of_getElem? hz))
  refine ⟨by simpa using h1, ?_⟩
  cases e : PySem.W.nsIn K mainGlobals x with
  | none => rw [e] at h2; cases h2
  | some o =>
    rw [e] at h2
    cases o with
    | none => cases h2
    | some u =>
      obtain ⟨v, r1, q1⟩ := rvB_ok (show rvB K 10 d u = true from h2)
      exact ⟨v, u, PySem.W.mg_of XK GK e, r1, q1⟩
/-! ### __init__ of an exception without fields -/
structure InitP where
  msg : Str
  j : Nat
  p1 : Pos
  p2 : Pos
  p3 : Pos
  p4 : Pos
  p5 : Pos
  p6 : Pos
def initP : List Stmt → InitP
  | [.Expr (.Call (.Attribute (.Name _ p1) _ p2) [.Name _ p3, .Constant (.str msg) j p4] [] p5) p6] => ⟨msg, j, p1, p2, p3, p4, p5, p6⟩
  | _ => ⟨"", 0, ⟨0, 0, 0, 0⟩, ⟨0, 0, 0, 0⟩, ⟨0, 0, 0, 0⟩, ⟨0, 0, 0, 0⟩, ⟨0, 0, 0, 0⟩, ⟨0, 0, 0, 0⟩⟩
def InitP.b (q : InitP) : List Stmt := initB q.msg q.j q.p1 q.p2 q.p3 q.p4 q.p5 q.p6
def initOk (b : List Stmt) : Bool := match b with
  | [.Expr (.Call (.Attribute (.Name v p1) i p2) [.Name s p3, .Constant (.str msg) j p4] [] p5) p6] => decide (v = "ValueError") && (decide (i = "__init__") && (decide (s = "self") && decide (p2.endLine = p5.line)))
  | _ => false
theorem hev_init {msg : Str} {j : Nat} {p1 p2 p3 p4 p5 : Pos} (hl : p2.endLine = p5.line) (env : Env) : eval (.Call (.Attribute (.Name "ValueError" p1) "__init__" p2) [.Name "self" p3, .Constant (.str msg) j p4] [] p5) env = (do
      let ov ← eval (.Name "ValueError" p1) env
      standAt p2.atName
      let (f, first) ← holding [ov] (getMethod ov "__init__" (do return (← importBound (.Name "ValueError" p1) env).getD true))
      callWith p5 f first (backTo p5 (starEach [.Name "self" p3, .Constant (.str msg) j p4] env)) (backToKw p5 (keywordEach [] env))) := by
  obtain ⟨a1, a2, a3, a4⟩ := p2
  obtain ⟨b1, b2, b3, b4⟩ := p5
  simp only at hl
  subst hl
  have e : methodCallPos true (.Name "ValueError" p1) env ⟨a1, a2, a3, a4⟩ ⟨a3, b2, b3, b4⟩ = pure ⟨a3, b2, b3, b4⟩ := by
    unfold methodCallPos
    simp
  show (do
      let ov ← eval (.Name "ValueError" p1) env
      standAt (⟨a1, a2, a3, a4⟩ : Pos).atName
      let (f, first) ← holding [ov] (getMethod ov "__init__" (do return (← importBound (.Name "ValueError" p1) env).getD true))
      let cp ← methodCallPos true (.Name "ValueError" p1) env ⟨a1, a2, a3, a4⟩ ⟨a3, b2, b3, b4⟩
      callWith cp f first (backTo ⟨a3, b2, b3, b4⟩ (starEach [.Name "self" p3, .Constant (.str msg) j p4] env)) (backToKw ⟨a3, b2, b3, b4⟩ (keywordEach [] env))) = _
  rw [e]
  rfl
theorem initOk_ok {b : List Stmt} (h : initOk b = true) : ∃ (msg : Str) (j : Nat) (p1 p2 p3 p4 p5 p6 : Pos), b = initB msg j p1 p2 p3 p4 p5 p6 ∧ p2.endLine = p5.line := by
  unfold initOk at h
  split at h
  · obtain ⟨h1, h2⟩ := He.ba h
    obtain ⟨h3, h4⟩ := He.ba h2
    obtain ⟨h5, h6⟩ := He.ba h4
    have e1 := of_decide_eq_true h1
    have e2 := of_decide_eq_true h3
    have e3 := of_decide_eq_true h5
    subst e1 e2 e3
    exact ⟨_, _, _, _, _, _, _, _, rfl, of_decide_eq_true h6⟩
  · cases h
/-- a class of Z by its text -/
theorem zok0 {K : PySem.W.Frag} {mg : Str → Option Value} {x qual : Str} {params : Arguments} {body : List Stmt} {scope : Scope} {fd : FuncData} (F1 : FunD K "__init__" qual params body scope [] [] (He.fAd K (x, some "__init__")) fd) (hb : initOk body = true) (S0 : FnScope ["self"] ["self"] scope)
    (g1 : scope.names.lookup ("ValueError" : Str) = some .globalImplicit) (g2 : scope.names.lookup ("self" : Str) = some .local) (hB : Binds K fd ["self"] []) : ZOk K mg x [] := by
  obtain ⟨msg, j, p1, p2, p3, p4, p5, p6, rfl, hl⟩ := initOk_ok hb
  exact ⟨by simp, fd, ["self"], hB, fun P w base hv vV => init0_ok F1 S0 g1 g2 hv (fun env => hev_init hl env) vV⟩
/-- self.f = f -/
def asgF : Stmt → Option Str
  | .Assign [.Attribute (.Name s _) f _] (.Name g _) _ => if s = "self" ∧ f = g then some f else none
  | _ => none
theorem asgF_ok {st : Stmt} {f : Str} (h : asgF st = some f) : ∃ q1 q2 q3 q4, st = .Assign [.Attribute (.Name "self" q1) f q2] (.Name f q3) q4 := by
  unfold asgF at h
  split at h
  · split at h
    · rename_i e
      obtain ⟨e1, e2⟩ := e
      cases h
      subst e1 e2
      exact ⟨_, _, _, _, rfl⟩
    · cases h
  · cases h
theorem zok1 {K : PySem.W.Frag} {mg : Str → Option Value} {x qual f : Str} {params : Arguments} {body : List Stmt} {s0 s1 : Stmt} {scope : Scope} {fd : FuncData} (F1 : FunD K "__init__" qual params body scope [] [] (He.fAd K (x, some "__init__")) fd) (he : body = [s0, s1]) (hb : initOk [s0] = true) (h1 : asgF s1 = some f)
    (S0 : FnScope ["self", f] ["self", f] scope) (g1 : scope.names.lookup ("ValueError" : Str) = some .globalImplicit) (g2 : scope.names.lookup ("self" : Str) = some .local) (g3 : scope.names.lookup f = some .local) (hd : (f == ("__debug__" : Str)) = false ∧ (f == ("__classdict__" : Str)) = false) (hB : Binds K fd ["self", f] []) : ZOk K mg x [f] := by
  obtain ⟨msg, j, p1, p2, p3, p4, p5, p6, e0, hl⟩ := initOk_ok hb
  obtain ⟨q1, q2, q3, q4, rfl⟩ := asgF_ok h1
  have e : body = initB1 msg f j p1 p2 p3 p4 p5 p6 q1 q2 q3 q4 := by
    rw [he]
    cases e0
    rfl
  subst e
  exact ⟨by simp, fd, _, hB, fun P w base hv vV => init1_ok F1 S0 g1 g2 g3 hv (fun env => hev_init hl env) hd vV⟩
theorem zok2 {K : PySem.W.Frag} {mg : Str → Option Value} {x qual f g : Str} {params : Arguments} {body : List Stmt} {s0 s1 s2 : Stmt} {scope : Scope} {fd : FuncData} (F1 : FunD K "__init__" qual params body scope [] [] (He.fAd K (x, some "__init__")) fd) (he : body = [s0, s1, s2]) (hb : initOk [s0] = true) (h1 : asgF s1 = some f) (h2 : asgF s2 = some g)
    (S0 : FnScope ["self", f, g] ["self", f, g] scope) (g1 : scope.names.lookup ("ValueError" : Str) = some .globalImplicit) (g2 : scope.names.lookup ("self" : Str) = some .local) (g3 : scope.names.lookup f = some .local) (g4 : scope.names.lookup g = some .local)
    (hd : (f == ("__debug__" : Str)) = false ∧ (f == ("__classdict__" : Str)) = false) (hd2 : (g == ("__debug__" : Str)) = false ∧ (g == ("__classdict__" : Str)) = false) (hB : Binds K fd ["self", f, g] []) : ZOk K mg x [f, g] := by
  obtain ⟨msg, j, p1, p2, p3, p4, p5, p6, e0, hl⟩ := initOk_ok hb
  obtain ⟨q1, q2, q3, q4, rfl⟩ := asgF_ok h1
  obtain ⟨r1, r2, r3, r4, rfl⟩ := asgF_ok h2
  have e : body = initB2 msg f g j p1 p2 p3 p4 p5 p6 q1 q2 q3 q4 r1 r2 r3 r4 := by
    rw [he]
    cases e0
    rfl
  subst e
  exact ⟨by simp, fd, _, hB, fun P w base hv vV => init2_ok F1 S0 g1 g2 g3 g4 hv (fun env => hev_init hl env) hd hd2 vV⟩
end L2.MP
/-! MpH5: a law's end. -/
namespace L2.MP
open PySem PySem.Spec PyProof.Rows
/-- a law: the evaluator's answer, over a head by facts -/
theorem walk_mp {l : PySem.W.OpenLaw} {n k : Nat} {q : Program} {loose : List Str} {XP : (Str → Option Value) → Heap → Prop} {YP : World → Heap → Prop} {d : DefRec} {x : Str}
    (hn : l.most = some n) (hn2 : n ≤ sizeLine) (hdf : d.params.defaults = []) (hr : Room k callerA) {ec : PySem.W.Frag → EC} {fl : Nat → List Str} {g : List D → Hs → MP.R D} (hg : ∀ ns : List Int, ns.length ≤ n → ∃ h, g [.scr ns] [] = .ok (.bl true) h)
    (F : ∀ (w : World) (mg : Str → Option Value) (fa : Addr) (h : Heap), YP w h → h.Ns mainGlobals mg → mg d.name = some (.ref fa) →
      ∃ (K : PySem.W.Frag) (fd : FuncData), K.In h ∧ (∀ (s : Shared) (u : Value), BindsTo s fd ⟨[u], []⟩ [(x, u)]) ∧
        ∀ base : Heap, K.In base → base.Ns mainGlobals mg → FnG l.prog w K mg base (L2.CX l.prog w) k fa fd [x] (spOf (ec K) K fl 1 g)) :
    PySem.W.WalkO q loose XP YP l.row.toRowW d [] (fun f vs => PySem.call f vs) := by
  refine Att.attach_call hn hdf fun w s₀ s₁ mg mb fa o pm cd doc a vs ns G Y ho hd hcd hmg hobj hints hlen hgg => ?_
  obtain ⟨K, fd, KX, hb, hF⟩ := F w mg fa _ Y G.T.g hmg
  refine law_g KX G.T.g G.T.b G.T.builtins G.T.nolimit hgg hobj hints (Nat.le_trans hlen hn2) hr hF hb (fun H hS => ?_) fun H e s' z => ?_
  · obtain ⟨h, e⟩ := hg ns hlen
    exact sp0 hS e
  · obtain ⟨_, _, _, _, _, _, _, _, _, _, _, _, z⟩ := z
    exact z
def DefsOk (cf : Cf) (K : PySem.W.Frag) (mg : Str → Option Value) : List Str → List Fn → Prop
  | [], [] => True
  | x :: xs, f :: fs => DefOk cf K mg x f ∧ DefsOk cf K mg xs fs
  | _, _ => False
theorem defs_get {cf : Cf} {K : PySem.W.Frag} {mg : Str → Option Value} : ∀ {xs : List Str} {fs : List Fn}, DefsOk cf K mg xs fs → ∀ (f : Nat) (x : Str), xs[f]? = some x → ∃ fn, fs[f]? = some fn ∧ DefOk cf K mg x fn
  | [], [], _, f, x, h => by simp at h
  | x :: xs, y :: fs, h, 0, z, e => by
    simp at e
    subst e
    exact ⟨y, rfl, h.1⟩
  | x :: xs, y :: fs, h, f + 1, z, e => by
    obtain ⟨fn, h1, h2⟩ := defs_get h.2 f z (by simpa using e)
    exact ⟨fn, by simpa using h1, h2⟩
  | [], _ :: _, h, _, _, _ => False.elim h
  | _ :: _, [], h, _, _, _ => False.elim h
theorem all_nil {α : Type} {p : α → Prop} : ∀ x ∈ ([] : List α), p x := fun x h => by simp at h
theorem all_cons {α : Type} {p : α → Prop} {a : α} {l : List α} (h : p a) (k : ∀ x ∈ l, p x) : ∀ x ∈ a :: l, p x := fun x hx => by
  rcases List.mem_cons.mp hx with rfl | hx
  · exact h
  · exact k x hx
def xkA (A : List Str) (Bs : List String) (Z : List Str) (fls : List (List (List Nat))) (ns : List Str) (ds : List D) (K : PySem.W.Frag) : Bool := xkB A Bs Z fls K && (glsB ns ds K && A.all fun x => (He.Fa.glo x).ok K)
def flG (G : Gl) (c : Nat) : List Str := (G.fls.getD c []).map fun n => (⟨n.toArray⟩ : Str)
/-- what is plain of a configuration -/
def cfOk (cf : Cf) (G : Gl) (Z : List Str) : Bool := decide cf.exs.Nodup && (decide (cf.exs.length = G.exb.length) && (decide (G.fls.length = cf.exs.length) && (decide (cf.ars.length = cf.exs.length) && ((cf.exs.all fun x => !(x == ("__debug__" : Str))) &&
  (((List.range cf.exs.length).all fun c => decide (G.flc[c]? = some (G.fls.getD c []).length) && (decide (G.fls.getD c []).Nodup && (match cf.ars[c]? with
    | some (some m) => decide ((G.fls.getD c []).length = m) && decide (cf.exs.getD c "" ∈ Z)
    | _ => true))))))))
/-- WF0, from the checks -/
theorem wf0_all {cf : Cf} {G : Gl} {Z : List Str} {P : Program} {w : World} {K : PySem.W.Frag} {h : Heap} {mg : Str → Option Value} {base : Heap} (XK : K.In h) (GK : h.Ns mainGlobals mg) (hx : xkA cf.exs G.exb Z G.fls cf.gls G.gls K = true) (hc : cfOk cf G Z = true)
    (hZ : ∀ (c : Nat) (x : Str) (m : Nat), cf.exs[c]? = some x → cf.ars[c]? = some (some m) → ZOk K mg x (flG G c)) : WF0 cf G (ecOf cf.exs K) P w K (flG G) mg base := by
  obtain ⟨h1, h2⟩ := He.ba hx
  obtain ⟨h3, h4⟩ := He.ba h2
  have hglo : ∀ x ∈ cf.exs, mg x = some (.ref (He.ga K x)) := fun x hx => He.glo_ok XK GK (List.all_eq_true.mp h4 x hx)
  unfold cfOk at hc
  obtain ⟨k1, hc⟩ := He.ba hc
  obtain ⟨k2, hc⟩ := He.ba hc
  obtain ⟨k3, hc⟩ := He.ba hc
  obtain ⟨k4, hc⟩ := He.ba hc
  obtain ⟨k5, k6⟩ := He.ba hc
  have hd : ∀ x ∈ cf.exs, (x == ("__debug__" : Str)) = false := fun x hx => by simpa using List.all_eq_true.mp k5 x hx
  have l3 := of_decide_eq_true k3
  have l4 := of_decide_eq_true k4
  have at_ : ∀ c, c < cf.exs.length → G.flc[c]? = some (G.fls.getD c []).length ∧ (G.fls.getD c []).Nodup ∧ ∀ m, cf.ars[c]? = some (some m) → (G.fls.getD c []).length = m ∧ cf.exs.getD c "" ∈ Z := fun c hc => by
    have q := List.all_eq_true.mp k6 c (List.mem_range.mpr hc)
    obtain ⟨q1, q2⟩ := He.ba q
    obtain ⟨q3, q4⟩ := He.ba q2
    refine ⟨of_decide_eq_true q1, of_decide_eq_true q3, fun m hm => ?_⟩
    rw [hm] at q4
    obtain ⟨q5, q6⟩ := He.ba q4
    exact ⟨of_decide_eq_true q5, of_decide_eq_true q6⟩
  have len : ∀ c, (flG G c).length = (G.fls.getD c []).length := fun c => by simp [flG]
  have getD : ∀ {c : Nat} {x : Str}, cf.exs[c]? = some x → cf.exs.getD c "" = x := fun {c x} h => by rw [List.getD_eq_getElem?_getD, h]; rfl
  have hars : ∀ (c m : Nat), cf.ars[c]? = some (some m) → (flG G c).length = m := fun c m hm => by
    rw [len]
    exact ((at_ c (by rw [← l4]; exact get_lt hm)).2.2 m hm).1
  have hfls : ∀ (c : Nat) (x : Str), cf.exs[c]? = some x → ∃ ns, G.fls[c]? = some ns ∧ flG G c = ns.map (fun n => (⟨n.toArray⟩ : Str)) ∧ ns.Nodup := fun c x hx => by
    have hlt : c < G.fls.length := by rw [l3]; exact get_lt hx
    have e : G.fls[c]? = some G.fls[c] := List.getElem?_eq_getElem hlt
    have e2 : G.fls.getD c [] = G.fls[c] := by rw [List.getD_eq_getElem?_getD, e]; rfl
    refine ⟨_, e, by unfold flG; rw [e2], ?_⟩
    rw [← e2]
    exact (at_ c (get_lt hx)).2.1
  have hno : ∀ (c : Nat) (x : Str), cf.exs[c]? = some x → ∀ f ∈ flG G c, PySem.W.findIn K (.ref (He.ga K x)) f = some none := fun c x hx f hf => by
    have h1' := h1
    unfold xkB at h1'
    simp only [Bool.and_eq_true] at h1'
    obtain ⟨⟨⟨_, xf⟩, _⟩, _⟩ := h1'
    obtain ⟨ns, e1, e2, _⟩ := hfls c x hx
    rw [e2] at hf
    obtain ⟨n, hn1, rfl⟩ := List.mem_map.mp hf
    have hz : (cf.exs.zip G.fls)[c]? = some (x, ns) := by
      rw [List.getElem?_zip_eq_some]
      exact ⟨hx, e1⟩
    exact He.eqO_ok (List.all_eq_true.mp (List.all_eq_true.mp xf (x, ns) (List.mem_of_getElem? hz)) n hn1)
  refine wf0_of XK GK h1 rfl (of_decide_eq_true k1) (of_decide_eq_true k2) hd hglo (glsB_ok XK GK h3) (fun c x hc => by rw [len]; exact (at_ c (get_lt hc)).1) hars hfls ?_
  exact fun X a1 a2 a3 a4 a5 hc hr c x m p pos hcx har hg => mk_z XK GK h1 rfl hd hglo hars (fun c x m hcx har => ⟨by have := ((at_ c (get_lt hcx)).2.2 m har).2; rwa [getD hcx] at this, hZ c x m hcx har⟩) hno X a1 a2 a3 a4 a5 hc hr c x m p pos hcx har hg
/-- the law's def, from the facts -/
theorem law_fn {cf : Cf} {G : Gl} {ec : EC} {P : Program} {w : World} {K : PySem.W.Frag} {fl : Nat → List Str} {mg : Str → Option Value} {base : Heap} {Fs : List Fn} (w0 : WF0 cf G ec P w K fl mg base) (hcalm : cf.calm = true)
    (hF : ∀ (f : Nat) (x : Str), cf.fns[f]? = some x → ∃ fn, Fs[f]? = some fn ∧ DefOk cf K mg x fn) {n0 N lw : Nat} {qual x0 : Str} {params : Arguments} {body : List Stmt} {scope : Scope} {fa : Addr} {fd : FuncData} {Ns : List Str} {x : Str} {b : List S}
    (F1 : FunD K x0 qual params body scope [] [] fa fd) (S0 : FnScope Ns [x] scope) (hnn : ∀ y ∈ Ns, (y == ("__debug__" : Str)) = false ∧ (y == ("__classdict__" : Str)) = false) (ht : trSs cf n0 Ns scope body = some b) (hl : Fs[lw]? = some ⟨1, Ns.length, b⟩) :
    FnG P w K mg base (L2.CX P w) (N + 4) fa fd [x] (spOf ec K fl 1 (callN G Fs (N + 1) lw)) := by
  have hg : ∀ xs h, callN G Fs (N + 1) lw xs h = if xs.length = [x].length then (match evSs G (callN G Fs N) b (xs.map some ++ List.replicate (Ns.length - [x].length) none) h with
        | .ok (.rt v) _ h => .ok v h
        | .ok .nx _ h => .ok .non h
        | .exc c fs _ h => .exc c fs h
        | _ => .bad) else .bad := fun xs h => by
      simp only [callN, hl]
      try rfl
  exact def_ok (wf_all w0 hcalm hF N) hcalm F1 S0 hnn ht hg
end L2.MP
/-! MpP: plain readings of the interpreter: what a law needs to be shown. -/
namespace L2.MP
open PySem

/-! ### results -/
def okR {α : Type} (r : R α) (P : α → Hs → Prop) : Prop := match r with
  | .ok a h => P a h
  | _ => False
def okQ (q : Q) (P : F → Sl → Hs → Prop) : Prop := match q with
  | .ok f sl h => P f sl h
  | _ => False
theorem okR_ok {α : Type} {a : α} {h : Hs} {P : α → Hs → Prop} : okR (.ok a h) P = P a h := rfl
theorem okQ_ok {f : F} {sl : Sl} {h : Hs} {P : F → Sl → Hs → Prop} : okQ (.ok f sl h) P = P f sl h := rfl
theorem okR_inv {α : Type} {r : R α} {P : α → Hs → Prop} (h : okR r P) : ∃ a h', r = .ok a h' ∧ P a h' := by
  cases r with
  | ok a h' => exact ⟨a, h', rfl, h⟩
  | exc c fs h' => exact False.elim h
  | bad => exact False.elim h
theorem okR_mono {α : Type} {r : R α} {P P' : α → Hs → Prop} (h : okR r P) (k : ∀ a h', P a h' → P' a h') : okR r P' := by
  cases r with
  | ok a h' => exact k _ _ h
  | exc c fs h' => exact h
  | bad => exact h
theorem okQ_mono {q : Q} {P P' : F → Sl → Hs → Prop} (h : okQ q P) (k : ∀ f sl h', P f sl h' → P' f sl h') : okQ q P' := by
  cases q with
  | ok f sl h' => exact k _ _ _ h
  | exc c fs sl h' => exact h
  | bad => exact h
theorem okR_bind {α β : Type} {r : R α} {f : α → Hs → R β} {P : β → Hs → Prop} (h : okR r fun a h => okR (f a h) P) : okR (r.bind f) P := by
  cases r with
  | ok a h' => exact h
  | exc c fs h' => exact h
  | bad => exact h
theorem okR_q {α : Type} {r : R α} {sl : Sl} {f : α → Hs → Q} {P : F → Sl → Hs → Prop} (h : okR r fun a h => okQ (f a h) P) : okQ (r.q sl f) P := by
  cases r with
  | ok a h' => exact h
  | exc c fs h' => exact h
  | bad => exact h
def nxP (f : Sl → Hs → Q) (P : F → Sl → Hs → Prop) : F → Sl → Hs → Prop := fun F sl h => match F with
  | .nx => okQ (f sl h) P
  | F => P F sl h
theorem okQ_bind {q : Q} {f : Sl → Hs → Q} {P : F → Sl → Hs → Prop} (h : okQ q (nxP f P)) : okQ (q.bind f) P := by
  cases q with
  | ok F sl h' => cases F <;> exact h
  | exc c fs sl h' => exact h
  | bad => exact h
/-- rewriting does not look behind what stops -/
theorem R.bind_congr {α β : Type} {r r' : R α} {f : α → Hs → R β} (h : r = r') : r.bind f = r'.bind f := by rw [h]
theorem R.q_congr {α : Type} {r r' : R α} {sl : Sl} {f : α → Hs → Q} (h : r = r') : r.q sl f = r'.q sl f := by rw [h]
theorem Q.bind_congr {r r' : Q} {f : Sl → Hs → Q} (h : r = r') : r.bind f = r'.bind f := by rw [h]
theorem forL_congr {s s' : Src} {f : D → Sl → Hs → Q} {xs xs' : List D} {sl sl' : Sl} {h h' : Hs} (e1 : s = s') (e2 : xs = xs') (e3 : sl = sl') (e4 : h = h') : forL s f xs sl h = forL s' f xs' sl' h' := by rw [e1, e2, e3, e4]
theorem mapR_congr {s s' : Src} {f : D → Hs → R (Option D)} {xs xs' : List D} {h h' : Hs} (e1 : s = s') (e2 : xs = xs') (e4 : h = h') : mapR s f xs h = mapR s' f xs' h' := by rw [e1, e2, e4]
theorem flatR_congr {s s' : Src} {f : D → Hs → R (List D)} {xs xs' : List D} {h h' : Hs} (e1 : s = s') (e2 : xs = xs') (e4 : h = h') : flatR s f xs h = flatR s' f xs' h' := by rw [e1, e2, e4]
theorem R.bind_ok {α β : Type} {a : α} {h : Hs} {f : α → Hs → R β} : (R.ok a h).bind f = f a h := rfl
theorem R.bind_exc {α β : Type} {c : Nat} {fs : List D} {h : Hs} {f : α → Hs → R β} : (R.exc c fs h : R α).bind f = .exc c fs h := rfl
theorem R.q_ok {α : Type} {a : α} {h : Hs} {sl : Sl} {f : α → Hs → Q} : (R.ok a h).q sl f = f a h := rfl
theorem R.q_exc {α : Type} {c : Nat} {fs : List D} {h : Hs} {sl : Sl} {f : α → Hs → Q} : (R.exc c fs h : R α).q sl f = .exc c fs sl h := rfl
theorem R.of_some {α : Type} {a : α} {h : Hs} : R.of (some a) h = .ok a h := rfl
theorem R.nox_ok {α : Type} {a : α} {h : Hs} : (R.ok a h).nox = .ok a h := rfl
theorem Q.bind_nx {sl : Sl} {h : Hs} {f : Sl → Hs → Q} : (Q.ok .nx sl h).bind f = f sl h := rfl
theorem Q.bind_rt {d : D} {sl : Sl} {h : Hs} {f : Sl → Hs → Q} : (Q.ok (.rt d) sl h).bind f = .ok (.rt d) sl h := rfl
theorem Q.bind_bk {sl : Sl} {h : Hs} {f : Sl → Hs → Q} : (Q.ok .bk sl h).bind f = .ok .bk sl h := rfl
theorem Q.bind_ct {sl : Sl} {h : Hs} {f : Sl → Hs → Q} : (Q.ok .ct sl h).bind f = .ok .ct sl h := rfl
theorem Q.bind_exc {c : Nat} {fs : List D} {sl : Sl} {h : Hs} {f : Sl → Hs → Q} : (Q.exc c fs sl h).bind f = .exc c fs sl h := rfl

/-- a def's end -/
def finQ : Q → R D
  | .ok (.rt v) _ h => .ok v h
  | .ok .nx _ h => .ok .non h
  | .exc c fs _ h => .exc c fs h
  | _ => .bad
theorem fin_rt {v : D} {sl : Sl} {h : Hs} : finQ (.ok (.rt v) sl h) = .ok v h := rfl
theorem fin_nx {sl : Sl} {h : Hs} : finQ (.ok .nx sl h) = .ok .non h := rfl
theorem fin_exc {c : Nat} {fs : List D} {sl : Sl} {h : Hs} : finQ (.exc c fs sl h) = .exc c fs h := rfl
theorem finQ_congr {r r' : Q} (h : r = r') : finQ r = finQ r' := by rw [h]
theorem okR_fin {q : Q} {P : D → Hs → Prop} (h : okQ q fun F _ h => match F with
    | .rt v => P v h
    | .nx => P .non h
    | _ => False) : okR (finQ q) P := by
  cases q with
  | ok F sl h' => cases F <;> exact h
  | exc c fs sl h' => exact h
  | bad => exact h
theorem okR_nox {α : Type} {r : R α} {P : α → Hs → Prop} (h : okR r P) : okR r.nox P := by
  cases r with
  | ok a h' => exact h
  | exc c fs h' => exact h
  | bad => exact h
theorem callN_eq {G : Gl} {Fs : List Fn} {n f : Nat} {vs : List D} {h : Hs} {fn : Fn} (hF : Fs[f]? = some fn) (hl : vs.length = fn.np) : callN G Fs (n + 1) f vs h = finQ (evSs G (callN G Fs n) fn.body (vs.map some ++ List.replicate (fn.ns - fn.np) none) h) := by
  simp only [callN, hF, if_pos hl]
  try rfl
theorem okQ_cons {G : Gl} {C : Nat → List D → Hs → R D} {s : S} {ss : List S} {sl : Sl} {h : Hs} {P : F → Sl → Hs → Prop} (k : okQ (evS G C s sl h) (nxP (evSs G C ss) P)) : okQ (evSs G C (s :: ss) sl h) P := by
  simp only [evSs]
  exact okQ_bind k
theorem evSs_nil {G : Gl} {C : Nat → List D → Hs → R D} {sl : Sl} {h : Hs} : evSs G C [] sl h = .ok .nx sl h := rfl
theorem nx_nx {f : Sl → Hs → Q} {P : F → Sl → Hs → Prop} {sl : Sl} {h : Hs} : nxP f P .nx sl h = okQ (f sl h) P := rfl
theorem nx_rt {f : Sl → Hs → Q} {P : F → Sl → Hs → Prop} {sl : Sl} {h : Hs} {d : D} : nxP f P (.rt d) sl h = P (.rt d) sl h := rfl

/-! ### plain values -/
def pl : Nat → D → Bool
  | 0, _ => false
  | n + 1, .tup xs => xs.all (pl n)
  | n + 1, .lst xs => xs.all (pl n)
  | _ + 1, .ref _ => false
  | _ + 1, .exn _ _ => false
  | _ + 1, .scr _ => false
  | _ + 1, .dic _ _ => false
  | _ + 1, _ => true
theorem mapO_id {f : D → Option D} : ∀ {xs : List D}, (∀ x ∈ xs, f x = some x) → mapO f xs = some xs
  | [], _ => rfl
  | x :: xs, h => by
    have h1 := h x (List.mem_cons_self ..)
    have h2 := mapO_id (f := f) (xs := xs) fun y hy => h y (List.mem_cons_of_mem _ hy)
    simp only [mapO, h1, h2, Option.bind_some]
theorem deep_pl {w : Bool} {h : Hs} : ∀ {n : Nat} {d : D}, pl n d = true → deep w h n d = some d
  | 0, _, q => by simp [pl] at q
  | n + 1, d, q => by
    cases d with
    | tup xs =>
      simp only [pl, List.all_eq_true] at q
      simp only [deep, mapO_id fun x hx => deep_pl (n := n) (q x hx), Option.map_some]
    | lst xs =>
      simp only [pl, List.all_eq_true] at q
      simp only [deep, mapO_id fun x hx => deep_pl (n := n) (q x hx), Option.map_some]
    | _ => first | rfl | (simp [pl] at q; done)
theorem frz_pl {h : Hs} {k i : Nat} : ∀ {n : Nat} {d : D}, pl n d = true → frz h k i n d = some d
  | 0, _, q => by simp [pl] at q
  | n + 1, d, q => by
    cases d with
    | tup xs =>
      simp only [pl, List.all_eq_true] at q
      simp only [frz, mapO_id fun x hx => frz_pl (n := n) (q x hx), Option.map_some]
    | lst xs =>
      simp only [pl, List.all_eq_true] at q
      simp only [frz, mapO_id fun x hx => frz_pl (n := n) (q x hx), Option.map_some]
    | _ => first | rfl | (simp [pl] at q; done)
theorem eqT_refl : ∀ {n : Nat} {d : D}, pl n d = true → eqT d d = true
  | 0, _, q => by simp [pl] at q
  | n + 1, d, q => by
    have go : ∀ xs : List D, (∀ x ∈ xs, eqT x x = true) → eqTs xs xs = true := fun xs => by
      induction xs with
      | nil => intro _; rfl
      | cons x xs ih =>
        intro h
        simp only [eqTs, h x (List.mem_cons_self ..), ih fun y hy => h y (List.mem_cons_of_mem _ hy), Bool.and_self]
    cases d with
    | tup xs =>
      simp only [pl, List.all_eq_true] at q
      simp only [eqT]
      exact go xs fun x hx => eqT_refl (q x hx)
    | lst xs =>
      simp only [pl, List.all_eq_true] at q
      simp only [eqT]
      exact go xs fun x hx => eqT_refl (q x hx)
    | _ => first | (simp [eqT]; done) | (simp [pl] at q; done)
theorem eqD_pl {h : Hs} {a b : D} (ha : pl 40 a = true) (hb : pl 40 b = true) : eqD h a b = some (eqT a b) := by
  unfold eqD
  rw [deep_pl ha, deep_pl hb]
  rfl
theorem pl_lst {n : Nat} {xs : List D} : (∀ x ∈ xs, pl n x = true) → pl (n + 1) (.lst xs) = true := fun h => by
  simp only [pl, List.all_eq_true]; exact h
theorem pl_tup {n : Nat} {xs : List D} : (∀ x ∈ xs, pl n x = true) → pl (n + 1) (.tup xs) = true := fun h => by
  simp only [pl, List.all_eq_true]; exact h
theorem pl_up : ∀ {n : Nat} {d : D}, pl n d = true → pl (n + 1) d = true
  | 0, _, q => by simp [pl] at q
  | n + 1, d, q => by
    cases d with
    | tup xs =>
      simp only [pl, List.all_eq_true] at q
      exact pl_tup fun x hx => pl_up (q x hx)
    | lst xs =>
      simp only [pl, List.all_eq_true] at q
      exact pl_lst fun x hx => pl_up (q x hx)
    | _ => first | rfl | (simp [pl] at q; done)
theorem pl_le {n m : Nat} {d : D} (q : pl n d = true) (h : n ≤ m) : pl m d = true := by
  induction h with
  | refl => exact q
  | step _ ih => exact pl_up ih

/-! ### a call's end -/
theorem end_pure {h t : Hs} {d : D} (q : pl 40 d = true) : endCall .pure h (.ok d (h ++ t)) = .ok d h := by
  have e : (h ++ t).take h.length = h := by simp
  simp only [endCall]
  rw [if_pos e, frz_pl q]
  rfl
theorem end_pure0 {h : Hs} {d : D} (q : pl 40 d = true) : endCall .pure h (.ok d h) = .ok d h := by
  have := end_pure (h := h) (t := []) q
  rwa [List.append_nil] at this
theorem end_pureX {h t : Hs} {c : Nat} : endCall .pure h (.exc c [] (h ++ t)) = .exc c [] h := by
  have e : (h ++ t).take h.length = h := by simp
  simp only [endCall]
  rw [if_pos e]
  rfl
theorem end_pureX0 {h : Hs} {c : Nat} : endCall .pure h (.exc c [] h) = .exc c [] h := by
  have := end_pureX (h := h) (t := []) (c := c)
  rwa [List.append_nil] at this
theorem end_pureR {h : Hs} {xs : List D} (q : ∀ x ∈ xs, pl 39 x = true) : endCall .pure h (.ok (.ref h.length) (h ++ [.lst xs])) = .ok (.lst xs) h := by
  have e : (h ++ [Nd.lst xs]).take h.length = h := by simp
  simp only [endCall]
  rw [if_pos e]
  have e2 : (h ++ [Nd.lst xs])[h.length]? = some (.lst xs) := by simp
  have e3 : frz (h ++ [Nd.lst xs]) h.length (h ++ [Nd.lst xs]).length 40 (.ref h.length) = some (.lst xs) := by
    have e5 : ¬ h.length = (h ++ [Nd.lst xs]).length := by simp
    simp only [frz, if_neg (Nat.lt_irrefl _), if_neg e5, e2, Option.bind_some, seqN, mapO_id fun x hx => frz_pl (q x hx), Option.map_some]
  rw [e3]
  rfl
theorem end_root {h : Hs} {xs : List D} (q : ∀ x ∈ xs, pl 40 x = true) : endCall .root h (.ok (.ref h.length) (h ++ [.lst xs])) = .ok (.ref h.length) (h ++ [.lst xs]) := by
  have e : (h ++ [Nd.lst xs]).take h.length = h := by simp
  simp only [endCall]
  rw [if_pos ⟨e, Nat.le_refl _⟩]
  have e2 : (h ++ [Nd.lst xs])[h.length]? = some (.lst xs) := by simp
  rw [e2]
  simp only [mapO_id fun x hx => frz_pl (q x hx)]
theorem end_raw {h : Hs} {r : R D} : endCall .raw h r = r := rfl

/-! ### operations -/
section
variable {i j : Int} {h : Hs}
theorem b_add : binD .Add (.int i) (.int j) h = .ok (.int (i + j)) h := rfl
theorem b_sub : binD .Sub (.int i) (.int j) h = .ok (.int (i - j)) h := rfl
theorem b_mul (q : -(2 ^ 64) < i ∧ i < 2 ^ 64) : binD .Mult (.int i) (.int j) h = .ok (.int (i * j)) h := if_pos q
theorem b_fdiv (q : 0 < j ∧ j < 1073741824) : binD .FloorDiv (.int i) (.int j) h = .ok (.int (i / j)) h := if_pos q
theorem b_mod (q : 0 < j) : binD .Mod (.int i) (.int j) h = .ok (.int (i % j)) h := if_pos q
theorem b_pow (q : 0 ≤ j ∧ j ≤ 1000 ∧ i.natAbs < 2 ^ 64) : binD .Pow (.int i) (.int j) h = .ok (.int (i ^ j.toNat)) h := if_pos q
theorem b_adds {s t : List Nat} (q : s.length + t.length ≤ lim) : binD .Add (.str s) (.str t) h = .ok (.str (s ++ t)) h := if_pos q
theorem b_addt {s t : List D} (q : s.length + t.length ≤ lim) : binD .Add (.tup s) (.tup t) h = .ok (.tup (s ++ t)) h := if_pos q
theorem b_addl {s t : List D} (q : s.length + t.length ≤ lim) : binD .Add (.lst s) (.lst t) h = .ok (.lst (s ++ t)) h := by
  show (if _ then _ else _) = _
  exact if_pos q
theorem c_lt : cmpD h .Lt (.int i) (.int j) = some (decide (i < j)) := rfl
theorem c_le : cmpD h .LtE (.int i) (.int j) = some (decide (i ≤ j)) := rfl
theorem c_gt : cmpD h .Gt (.int i) (.int j) = some (decide (j < i)) := rfl
theorem c_ge : cmpD h .GtE (.int i) (.int j) = some (decide (j ≤ i)) := rfl
theorem beq_dec {α : Type} [DecidableEq α] (a b : α) : (a == b) = decide (a = b) := by
  by_cases e : a = b <;> simp [e]
theorem c_eqi : cmpD h .Eq (.int i) (.int j) = some (decide (i = j)) := by
  show some (i == j) = _
  rw [beq_dec]
theorem c_nei : cmpD h .NotEq (.int i) (.int j) = some (!decide (i = j)) := by
  show some (!(i == j)) = _
  rw [beq_dec]
theorem c_eqs {s t : List Nat} : cmpD h .Eq (.str s) (.str t) = some (decide (s = t)) := by
  show some (s == t) = _
  by_cases e : s = t <;> simp [e]
theorem c_nes {s t : List Nat} : cmpD h .NotEq (.str s) (.str t) = some (!decide (s = t)) := by
  show some (!(s == t)) = _
  by_cases e : s = t <;> simp [e]
theorem c_eq {a b : D} (ha : pl 40 a = true) (hb : pl 40 b = true) : cmpD h .Eq a b = some (eqT a b) := eqD_pl ha hb
theorem c_ne {a b : D} (ha : pl 40 a = true) (hb : pl 40 b = true) : cmpD h .NotEq a b = some (!eqT a b) := by
  show (eqD h a b).map _ = _
  rw [eqD_pl ha hb]
  rfl
theorem c_isN {a : D} : cmpD h .Is a .non = some (match a with | .non => true | _ => false) := rfl
theorem c_isnN {a : D} : cmpD h .IsNot a .non = some (match a with | .non => false | _ => true) := rfl
theorem c_isB {a b : Bool} : cmpD h .Is (.bl a) (.bl b) = some (decide (a = b)) := rfl
theorem c_isnB {a b : Bool} : cmpD h .IsNot (.bl a) (.bl b) = some (!decide (a = b)) := rfl
theorem t_bl {b : Bool} : truD h (.bl b) = some b := rfl
theorem t_int : truD h (.int i) = some (decide (i ≠ 0)) := rfl
theorem t_non : truD h .non = some false := rfl
theorem t_tup {xs : List D} : truD h (.tup xs) = some (!xs.isEmpty) := rfl
theorem t_lst {xs : List D} : truD h (.lst xs) = some (!xs.isEmpty) := rfl
end

/-! ### comprehensions and loops -/
def All2 {α β : Type} (T : α → β → Prop) : List α → List β → Prop
  | [], [] => True
  | x :: xs, y :: ys => T x y ∧ All2 T xs ys
  | _, _ => False
theorem All2.length {α β : Type} {T : α → β → Prop} : ∀ {xs : List α} {ys : List β}, All2 T xs ys → xs.length = ys.length
  | [], [], _ => rfl
  | x :: xs, y :: ys, h => by simp [All2.length h.2]
  | [], _ :: _, h => False.elim h
  | _ :: _, [], h => False.elim h
theorem All2.right {α β : Type} {T : α → β → Prop} : ∀ {xs : List α} {ys : List β}, All2 T xs ys → ∀ y ∈ ys, ∃ x ∈ xs, T x y
  | x :: xs, y :: ys, h, z, hz => by
    rcases List.mem_cons.mp hz with rfl | hz
    · exact ⟨x, List.mem_cons_self .., h.1⟩
    · obtain ⟨w, hw, t⟩ := All2.right h.2 z hz
      exact ⟨w, List.mem_cons_of_mem _ hw, t⟩
  | [], [], _, z, hz => by simp at hz
theorem chk_nil {h : Hs} : chk [] h = true := rfl
/-- what each step gives, with an invariant of the nodes -/
theorem mapR_ok {s : Src} {f : D → Hs → R (Option D)} (I : Hs → Prop) (T : D → Option D → Prop) (hc : ∀ h, I h → chk s h = true) : ∀ {xs : List D} {h : Hs},
    (∀ x ∈ xs, ∀ h, I h → okR (f x h) fun o h' => I h' ∧ T x o) → I h → okR (mapR s f xs h) fun ys h' => I h' ∧ ∃ os, All2 T xs os ∧ ys = os.filterMap id
  | [], h, _, i => by
    simp only [mapR]
    rw [if_pos (hc h i)]
    exact ⟨i, [], trivial, rfl⟩
  | x :: xs, h, k, i => by
    simp only [mapR]
    rw [if_pos (hc h i)]
    refine okR_bind (okR_mono (k x (List.mem_cons_self ..) h i) fun o h1 ⟨i1, t⟩ => ?_)
    refine okR_bind (okR_mono (mapR_ok I T hc (fun y hy => k y (List.mem_cons_of_mem _ hy)) i1) fun ys h2 ⟨i2, os, a, e⟩ => ?_)
    cases o with
    | none => exact ⟨i2, none :: os, ⟨t, a⟩, by rw [e]; rfl⟩
    | some y => exact ⟨i2, some y :: os, ⟨t, a⟩, by rw [e]; rfl⟩
/-- every step gives one value -/
theorem mapR_one {s : Src} {f : D → Hs → R (Option D)} (I : Hs → Prop) (T : D → D → Prop) (hc : ∀ h, I h → chk s h = true) : ∀ {xs : List D} {h : Hs},
    (∀ x ∈ xs, ∀ h, I h → okR (f x h) fun o h' => I h' ∧ ∃ y, o = some y ∧ T x y) → I h → okR (mapR s f xs h) fun ys h' => I h' ∧ All2 T xs ys
  | [], h, _, i => by
    simp only [mapR]
    rw [if_pos (hc h i)]
    exact ⟨i, trivial⟩
  | x :: xs, h, k, i => by
    simp only [mapR]
    rw [if_pos (hc h i)]
    refine okR_bind (okR_mono (k x (List.mem_cons_self ..) h i) fun o h1 ⟨i1, y, e, t⟩ => ?_)
    refine okR_bind (okR_mono (mapR_one I T hc (fun y hy => k y (List.mem_cons_of_mem _ hy)) i1) fun ys h2 ⟨i2, a⟩ => ?_)
    subst e
    exact ⟨i2, t, a⟩
/-- a pure step -/
theorem mapR_map {s : Src} {f : D → Hs → R (Option D)} {h : Hs} (g : D → D) (hc : chk s h = true) : ∀ {xs : List D}, (∀ x ∈ xs, f x h = .ok (some (g x)) h) → mapR s f xs h = .ok (xs.map g) h
  | [], _ => by
    simp only [mapR]
    rw [if_pos hc]
    rfl
  | x :: xs, k => by
    simp only [mapR]
    rw [if_pos hc, k x (List.mem_cons_self ..)]
    simp only [R.bind_ok]
    rw [mapR_map g hc fun y hy => k y (List.mem_cons_of_mem _ hy)]
    rfl
theorem mapR_filter {s : Src} {f : D → Hs → R (Option D)} {h : Hs} (g : D → Option D) (hc : chk s h = true) : ∀ {xs : List D}, (∀ x ∈ xs, f x h = .ok (g x) h) → mapR s f xs h = .ok (xs.filterMap g) h
  | [], _ => by
    simp only [mapR]
    rw [if_pos hc]
    rfl
  | x :: xs, k => by
    simp only [mapR]
    rw [if_pos hc, k x (List.mem_cons_self ..)]
    simp only [R.bind_ok]
    rw [mapR_filter g hc fun y hy => k y (List.mem_cons_of_mem _ hy)]
    simp only [R.bind_ok]
    cases e : g x <;> simp [e]
theorem forL_ok {s : Src} {f : D → Sl → Hs → Q} (I : Sl → Hs → Prop) (hc : ∀ sl h, I sl h → chk s h = true) : ∀ {xs : List D} {sl : Sl} {h : Hs},
    (∀ x ∈ xs, ∀ sl h, I sl h → okQ (f x sl h) fun F sl' h' => (F = .nx ∨ F = .ct) ∧ I sl' h') → I sl h → okQ (forL s f xs sl h) fun F sl' h' => F = .nx ∧ I sl' h'
  | [], sl, h, _, i => by
    simp only [forL]
    rw [if_pos (hc sl h i)]
    exact ⟨rfl, i⟩
  | x :: xs, sl, h, k, i => by
    simp only [forL]
    rw [if_pos (hc sl h i)]
    have q := k x (List.mem_cons_self ..) sl h i
    cases e : f x sl h with
    | ok F sl1 h1 =>
      rw [e] at q
      obtain ⟨q, i1⟩ := q
      rcases q with rfl | rfl
      · exact forL_ok I hc (fun y hy => k y (List.mem_cons_of_mem _ hy)) i1
      · exact forL_ok I hc (fun y hy => k y (List.mem_cons_of_mem _ hy)) i1
    | exc c fs sl1 h1 => rw [e] at q; exact False.elim q
    | bad => rw [e] at q; exact False.elim q
theorem mem_range {lo : Int} {n : Nat} {x : D} (h : x ∈ rangeL lo n) : ∃ k : Nat, k < n ∧ x = .int (lo + k) := by
  unfold rangeL at h
  obtain ⟨k, hk, rfl⟩ := List.mem_map.mp h
  exact ⟨k, List.mem_range.mp hk, rfl⟩
theorem length_range {lo : Int} {n : Nat} : (rangeL lo n).length = n := by simp [rangeL]

/-- the rounds of a law -/
theorem rounds_ok {G : Gl} {C : Nat → List D → Hs → R D} {N : Nat} {body : List S} {ns : List Int} (hN : 1 ≤ N ∧ N ≤ 100) (L : Nat) (I : Hs → Prop) {sl : Sl} {h : Hs} (hL : sl.length = L + 1) (hI : I h)
    (hb : ∀ k : Nat, k < N → ∀ (l : Sl) (h : Hs), l.length = L → I h → okQ (evSs G C body (some (.scr ns) :: some (.int k) :: l) h) fun F sl' h' => (F = .nx ∨ F = .ct) ∧ (∃ l', sl' = some (.scr ns) :: l' ∧ l'.length = L + 1) ∧ I h') :
    okQ (evS G C (.for_ (.nm 1) (.range (.cst (.int 0)) (.bi .max [.cst (.int 1), .bi .min [.bi .len [.var 0] false, .cst (.int N)] false] false)) body) (some (.scr ns) :: sl) h) fun F sl' h' => F = .nx ∧ (∃ l', sl' = some (.scr ns) :: l' ∧ l'.length = L + 1) ∧ I h' := by
  obtain ⟨J, hJ, hJ2⟩ : ∃ J : Nat, J ≤ N ∧ evI G C (.range (.cst (.int 0)) (.bi .max [.cst (.int 1), .bi .min [.bi .len [.var 0] false, .cst (.int N)] false] false)) (some (.scr ns) :: sl) h = .ok (rangeL 0 J, []) h := by
    let j : Int := if (if (N : Int) < ns.length then (N : Int) else ns.length) > 1 then (if (N : Int) < ns.length then (N : Int) else ns.length) else 1
    have j1 : 1 ≤ j ∧ j ≤ N := by
      show 1 ≤ (if (if (N : Int) < ns.length then (N : Int) else ns.length) > 1 then (if (N : Int) < ns.length then (N : Int) else ns.length) else 1) ∧ (if (if (N : Int) < ns.length then (N : Int) else ns.length) > 1 then (if (N : Int) < ns.length then (N : Int) else ns.length) else 1) ≤ (N : Int)
      split <;> split <;> omega
    refine ⟨j.toNat, by omega, ?_⟩
    have e : evI G C (.range (.cst (.int 0)) (.bi .max [.cst (.int 1), .bi .min [.bi .len [.var 0] false, .cst (.int N)] false] false)) (some (.scr ns) :: sl) h = if -1000000 ≤ (0 : Int) ∧ (0 : Int) ≤ 1000000 ∧ -1000000 ≤ j ∧ j ≤ 1000000 then .ok (rangeL 0 (j - 0).toNat, []) h else .bad := rfl
    rw [e, if_pos (by omega)]
    simp
  simp only [evS, hJ2, R.q]
  refine okQ_mono (forL_ok (fun sl h => (∃ l', sl = some (.scr ns) :: l' ∧ l'.length = L + 1) ∧ I h) (fun _ _ _ => rfl) (fun x hx sl h ⟨⟨l', e, hl'⟩, hI⟩ => ?_) ⟨⟨sl, rfl, hL⟩, hI⟩) fun F sl' h' q => q
  obtain ⟨k, hk, rfl⟩ := mem_range hx
  subst e
  cases l' with
  | nil => simp at hl'
  | cons a l' =>
    have hl2 : l'.length = L := by simpa using hl'
    have := hb k (by omega) l' h hl2 hI
    simp only [asgT, R.of, R.q, List.set_cons_succ, List.set_cons_zero, Int.zero_add]
    exact this

/-! ### the drawing -/
def pM : Int := 2147483647
def Fpool : Fn := ⟨2, 4, [.asg (.nm 2) (.cst (.int 0)), .ite (.cmp .Lt (.var 1) (.bi .len [.var 0] false)) [.asg (.nm 2) (.ix (.var 0) (.var 1))] [],
  .asg (.nm 3) (.bin .Mod (.bin .Pow (.bin .Add (.bin .Add (.bin .Mod (.var 2) (.cst (.int 2147483629))) (.bin .Mult (.bin .Mult (.cst (.int 7919)) (.var 1)) (.var 1))) (.cst (.int 31))) (.cst (.int 3))) (.cst (.int 2147483647))),
  .ite (.cmp .Lt (.var 2) (.bin .Pow (.cst (.int 10)) (.cst (.int 18)))) [.asg (.nm 2) (.cst (.int 0))] [], .ret (some (.lst [.var 2, .var 3] true))]⟩
def Fdraw : Fn := ⟨2, 3, [.ite (.cmp .Gt (.ix (.var 0) (.cst (.int 0))) (.cst (.int 0))) [.asg (.nm 2) (.bin .Mod (.ix (.var 0) (.cst (.int 0))) (.var 1)), .sto (.var 0) (.cst (.int 0)) (.bin .FloorDiv (.ix (.var 0) (.cst (.int 0))) (.var 1)), .ret (some (.var 2))] [],
  .sto (.var 0) (.cst (.int 1)) (.bin .Mod (.bin .Add (.bin .Mult (.ix (.var 0) (.cst (.int 1))) (.cst (.int 48271))) (.cst (.int 11))) (.cst (.int 2147483647))),
  .ret (some (.bin .Mod (.bin .FloorDiv (.bin .Mod (.bin .Mult (.ix (.var 0) (.cst (.int 1))) (.ix (.var 0) (.cst (.int 1)))) (.cst (.int 2147483629))) (.cst (.int 64))) (.var 1)))]⟩
def Fchoose (f : Nat) : Fn := ⟨2, 2, [.ret (some (.ix (.var 1) (.call f [.var 0, .bi .len [.var 1] false] .raw)))]⟩
/-- h is h0 with a pool at i -/
def PoolAt (i : Nat) (h0 h : Hs) : Prop := i < h0.length ∧ ∃ a b : Int, 0 ≤ b ∧ b < pM ∧ h = h0.set i (.lst [.int a, .int b])
theorem PoolAt.new {h : Hs} {a b : Int} (hb : 0 ≤ b) (hb2 : b < pM) : PoolAt h.length (h ++ [.lst [.int a, .int b]]) (h ++ [.lst [.int a, .int b]]) := ⟨by simp, a, b, hb, hb2, by simp⟩
theorem PoolAt.get {i : Nat} {h0 h : Hs} (p : PoolAt i h0 h) : ∃ a b : Int, 0 ≤ b ∧ b < pM ∧ h[i]? = some (.lst [.int a, .int b]) := by
  obtain ⟨hi, a, b, h1, h2, rfl⟩ := p
  exact ⟨a, b, h1, h2, by simp [hi]⟩
theorem PoolAt.set {i : Nat} {h0 h : Hs} {a b : Int} (p : PoolAt i h0 h) (hb : 0 ≤ b) (hb2 : b < pM) : PoolAt i h0 (h.set i (.lst [.int a, .int b])) := by
  obtain ⟨hi, a', b', h1, h2, rfl⟩ := p
  exact ⟨hi, a, b, hb, hb2, by simp⟩
theorem PoolAt.app {i : Nat} {h0 h t : Hs} (p : PoolAt i h0 h) : PoolAt i (h0 ++ t) (h ++ t) := by
  obtain ⟨hi, a', b', h1, h2, rfl⟩ := p
  exact ⟨by rw [List.length_append]; omega, a', b', h1, h2, by rw [List.set_append_left _ _ hi]⟩
theorem PoolAt.len {i : Nat} {h0 h : Hs} (p : PoolAt i h0 h) : h.length = h0.length := by
  obtain ⟨hi, a', b', h1, h2, rfl⟩ := p
  simp
theorem PoolAt.other {i j : Nat} {h0 h : Hs} (p : PoolAt i h0 h) (n : j ≠ i) : h[j]? = h0[j]? := by
  obtain ⟨hi, a', b', h1, h2, rfl⟩ := p
  rw [List.getElem?_set_ne (Ne.symm n)]
section
variable {G : Gl} {Fs : List Fn} {f n : Nat}
theorem ix_lst {h : Hs} {i : Nat} {xs : List D} {k : Int} (e : h[i]? = some (.lst xs)) : ixD h (.ref i) (.int k) = L2.atI xs k := by
  show (seqV h (.ref i)).bind _ = _
  simp only [seqV, e, Option.bind_some, seqN]
theorem ix_frz {h : Hs} {xs : List D} {k : Int} : ixD h (.lst xs) (.int k) = L2.atI xs k := rfl
theorem ix_tup {h : Hs} {xs : List D} {k : Int} : ixD h (.tup xs) (.int k) = L2.atI xs k := rfl
theorem ix_scr {h : Hs} {ns : List Int} {k : Int} : ixD h (.scr ns) (.int k) = (L2.atI ns k).map .int := rfl
theorem at0 {α : Type} {x : α} {xs : List α} : L2.atI (x :: xs) 0 = some x := by
  unfold L2.atI L2.ixN
  simp
theorem at1 {α : Type} {x y : α} {xs : List α} : L2.atI (x :: y :: xs) 1 = some y := by
  have := L2.atI_nat (xs := x :: y :: xs) (j := 1) (v := y) rfl
  exact this
theorem at_lt {α : Type} {xs : List α} {k : Int} (h : 0 ≤ k) (h2 : k < xs.length) : ∃ x, x ∈ xs ∧ L2.atI xs k = some x ∧ xs[k.toNat]? = some x := by
  have hk : k.toNat < xs.length := by omega
  have e : ((k.toNat : Nat) : Int) = k := by omega
  have g : xs[k.toNat]? = some xs[k.toNat] := List.getElem?_eq_getElem hk
  refine ⟨xs[k.toNat], List.getElem_mem hk, ?_, g⟩
  have := L2.atI_nat g
  rwa [e] at this
theorem pool_ok {ns : List Int} {k : Nat} {h : Hs} (hF : Fs[f]? = some Fpool) (hk : k < 100) : ∃ a b : Int, 0 ≤ b ∧ b < pM ∧ callN G Fs (n + 1) f [.scr ns, .int k] h = .ok (.ref h.length) (h ++ [.lst [.int a, .int b]]) := by
  have key : ∀ c : Int, ∃ a b : Int, 0 ≤ b ∧ b < pM ∧ evSs G (callN G Fs n) (Fpool.body.drop 2) [some (.scr ns), some (.int k), some (.int c), none] h = .ok (.rt (.ref h.length)) [some (.scr ns), some (.int k), some (.int a), some (.int b)] (h ++ [.lst [.int a, .int b]]) := fun c => by
    have h7 : 0 ≤ c % 2147483629 := Int.emod_nonneg _ (by decide)
    have h8 : c % 2147483629 < 2147483629 := Int.emod_lt_of_pos _ (by decide)
    have hk2 : (k : Int) * k ≤ 100 * 100 := Int.mul_le_mul (by omega) (by omega) (by omega) (by omega)
    have hk3 : 0 ≤ (k : Int) * k := Int.mul_nonneg (by omega) (by omega)
    have e7 : 7919 * (k : Int) * k = 7919 * (k * k) := Int.mul_assoc ..
    have hb0 : 0 ≤ (c % 2147483629 + 7919 * (k : Int) * k + 31) ^ 3 % 2147483647 := Int.emod_nonneg _ (by decide)
    have hb1 : (c % 2147483629 + 7919 * (k : Int) * k + 31) ^ 3 % 2147483647 < pM := Int.emod_lt_of_pos _ (by decide)
    have p1 : -(2 ^ 64) < (7919 : Int) ∧ (7919 : Int) < 2 ^ 64 := by omega
    have p2 : -(2 ^ 64) < 7919 * (k : Int) ∧ 7919 * (k : Int) < 2 ^ 64 := ⟨by omega, by omega⟩
    have p3 : 0 ≤ (3 : Int) ∧ (3 : Int) ≤ 1000 ∧ (c % 2147483629 + 7919 * (k : Int) * k + 31).natAbs < 2 ^ 64 := ⟨by decide, by decide, by omega⟩
    have p4 : 0 ≤ (18 : Int) ∧ (18 : Int) ≤ 1000 ∧ (10 : Int).natAbs < 2 ^ 64 := by omega
    refine ⟨if c < 1000000000000000000 then 0 else c, (c % 2147483629 + 7919 * (k : Int) * k + 31) ^ 3 % 2147483647, hb0, hb1, ?_⟩
    simp (config := {implicitDefEqProofs := false}) only [Fpool, List.drop, evSs, evS, evE, evEs, List.getElem?_cons_zero, List.getElem?_cons_succ, R.q_ok, R.bind_ok, R.of_some, Q.bind_nx, Q.bind_rt, b_mod (show (0 : Int) < 2147483629 by decide), b_mod (show (0 : Int) < 2147483647 by decide), b_mul p1, b_mul p2, b_add, b_pow p3, b_pow p4, asgT, List.set_cons_succ, List.set_cons_zero, c_lt, t_bl, lstOf, if_true]
    have e10 : (10 : Int) ^ (18 : Int).toNat = 1000000000000000000 := by simp
    have e3 : (3 : Int).toNat = 3 := by simp
    rw [e10, e3]
    by_cases hc : c < 1000000000000000000
    · simp (config := {implicitDefEqProofs := false}) only [hc, decide_true, if_true, evSs, evS, evE, evEs, R.q_ok, R.bind_ok, R.of_some, Q.bind_nx, Q.bind_rt, asgT, List.set_cons_succ, List.set_cons_zero, List.getElem?_cons_zero, List.getElem?_cons_succ, lstOf]
    · simp (config := {implicitDefEqProofs := false}) only [hc, decide_false, Bool.false_eq_true, if_false, evSs, evS, evE, evEs, R.q_ok, R.bind_ok, R.of_some, Q.bind_nx, Q.bind_rt, asgT, List.set_cons_succ, List.set_cons_zero, List.getElem?_cons_zero, List.getElem?_cons_succ, lstOf, if_true]
  have hs : ∃ c : Int, evSs G (callN G Fs n) Fpool.body [some (.scr ns), some (.int k), none, none] h = evSs G (callN G Fs n) (Fpool.body.drop 2) [some (.scr ns), some (.int k), some (.int c), none] h := by
    by_cases hl : (k : Int) < ns.length
    · obtain ⟨c, _, hc, _⟩ := at_lt (xs := ns) (by omega : (0 : Int) ≤ k) hl
      refine ⟨c, ?_⟩
      simp (config := {implicitDefEqProofs := false}) only [Fpool, List.drop, evSs, evS, evE, evEs, List.getElem?_cons_zero, List.getElem?_cons_succ, R.q_ok, R.bind_ok, R.of_some, Q.bind_nx, Q.bind_rt, asgT, List.set_cons_succ, List.set_cons_zero, biD, c_lt, t_bl, hl, decide_true, if_true, ix_scr, hc, Option.map_some]
    · refine ⟨0, ?_⟩
      simp (config := {implicitDefEqProofs := false}) only [Fpool, List.drop, evSs, evS, evE, evEs, List.getElem?_cons_zero, List.getElem?_cons_succ, R.q_ok, R.bind_ok, R.of_some, Q.bind_nx, Q.bind_rt, asgT, List.set_cons_succ, List.set_cons_zero, biD, c_lt, t_bl, hl, decide_false, Bool.false_eq_true, if_false]
  obtain ⟨c, hc⟩ := hs
  obtain ⟨a, b, h1, h2, h3⟩ := key c
  refine ⟨a, b, h1, h2, ?_⟩
  have e1 : callN G Fs (n + 1) f [.scr ns, .int k] h = (match evSs G (callN G Fs n) Fpool.body [some (.scr ns), some (.int k), none, none] h with
      | .ok (.rt v) _ h => .ok v h
      | .ok .nx _ h => .ok .non h
      | .exc c fs _ h => .exc c fs h
      | _ => .bad) := by
    simp only [callN, hF]
    try rfl
  rw [e1, hc, h3]
theorem newpool_ok {N : Nat} {ns : List Int} {k : Nat} {h : Hs} (hN : 1 ≤ N) (hF : Fs[f]? = some Fpool) (hk : k < 100) : okR (callN G Fs N f [.scr ns, .int k] h) fun v h' => v = .ref h.length ∧ PoolAt h.length h' h' ∧ ∃ p, h' = h ++ [p] := by
  obtain ⟨n, rfl⟩ : ∃ n, N = n + 1 := ⟨N - 1, by omega⟩
  obtain ⟨a, b, h1, h2, e⟩ := pool_ok (G := G) (n := n) (h := h) (ns := ns) hF hk
  rw [e]
  exact ⟨rfl, PoolAt.new h1 h2, _, rfl⟩
theorem draw_eq {i : Nat} {a b m : Int} {h : Hs} (hF : Fs[f]? = some Fdraw) (hi : h[i]? = some (.lst [.int a, .int b])) (hb : 0 ≤ b) (hb2 : b < pM) (hm : 0 < m) (hm2 : m < 1073741824) :
    ∃ d a' b' : Int, 0 ≤ d ∧ d < m ∧ 0 ≤ b' ∧ b' < pM ∧ callN G Fs (n + 1) f [.ref i, .int m] h = .ok (.int d) (h.set i (.lst [.int a', .int b'])) := by
  have hil : i < h.length := (List.getElem?_eq_some_iff.mp hi).1
  have e1 : callN G Fs (n + 1) f [.ref i, .int m] h = (match evSs G (callN G Fs n) Fdraw.body [some (.ref i), some (.int m), none] h with
      | .ok (.rt v) _ h => .ok v h
      | .ok .nx _ h => .ok .non h
      | .exc c fs _ h => .exc c fs h
      | _ => .bad) := by
    simp only [callN, hF]
    try rfl
  rw [e1]
  have st : ∀ (k : Int) (x : D) (ys : List D), L2.ixN 2 k = some ys.length → True := fun _ _ _ _ => trivial
  have s0 : ∀ v : D, stoD (.ref i) (.int 0) v h = .ok () (h.set i (.lst [v, .int b])) := fun v => by
    simp only [stoD, hi]
    rfl
  have s1 : ∀ v : D, stoD (.ref i) (.int 1) v h = .ok () (h.set i (.lst [.int a, v])) := fun v => by
    simp only [stoD, hi]
    rfl
  by_cases ha : (0 : Int) < a
  · refine ⟨a % m, a / m, b, Int.emod_nonneg _ (by omega), Int.emod_lt_of_pos _ hm, hb, hb2, ?_⟩
    simp (config := {implicitDefEqProofs := false}) only [Fdraw, evSs, evS, evE, evEs, List.getElem?_cons_zero, List.getElem?_cons_succ, R.q_ok, R.bind_ok, R.of_some, Q.bind_nx, Q.bind_rt, asgT, List.set_cons_succ, List.set_cons_zero, ix_lst hi, at0, c_gt, t_bl, ha, decide_true, if_true, b_mod hm, b_fdiv ⟨hm, hm2⟩, s0]
  · have q0 : 0 ≤ (b * 48271 + 11) % 2147483647 := Int.emod_nonneg _ (by decide)
    have q1 : (b * 48271 + 11) % 2147483647 < pM := Int.emod_lt_of_pos _ (by decide)
    have p0 : -(2 ^ 64) < b ∧ b < 2 ^ 64 := by unfold pM at hb2; omega
    have p1 : -(2 ^ 64) < (b * 48271 + 11) % 2147483647 ∧ (b * 48271 + 11) % 2147483647 < 2 ^ 64 := by unfold pM at q1; omega
    have h2 : (h.set i (.lst [.int a, .int ((b * 48271 + 11) % 2147483647)]))[i]? = some (.lst [.int a, .int ((b * 48271 + 11) % 2147483647)]) := by simp [hil]
    refine ⟨_, a, (b * 48271 + 11) % 2147483647, Int.emod_nonneg (((b * 48271 + 11) % 2147483647 * ((b * 48271 + 11) % 2147483647) % 2147483629) / 64) (by omega : m ≠ 0), Int.emod_lt_of_pos _ hm, q0, q1, ?_⟩
    simp (config := {implicitDefEqProofs := false}) only [Fdraw, evSs, evS, evE, evEs, List.getElem?_cons_zero, List.getElem?_cons_succ, R.q_ok, R.bind_ok, R.of_some, Q.bind_nx, Q.bind_rt, asgT, List.set_cons_succ, List.set_cons_zero, ix_lst hi, at0, at1, c_gt, t_bl, ha, decide_false, Bool.false_eq_true, if_false, b_mul p0, b_add, b_mod (show (0 : Int) < 2147483647 by decide), s1, ix_lst h2, b_mul p1, b_mod (show (0 : Int) < 2147483629 by decide), b_fdiv (show (0 : Int) < 64 ∧ (64 : Int) < 1073741824 by decide), b_mod hm]
theorem draw_ok {N i : Nat} {m : Int} {h0 h : Hs} (hN : 1 ≤ N) (hF : Fs[f]? = some Fdraw) (p : PoolAt i h0 h) (hm : 0 < m) (hm2 : m < 1073741824) :
    okR (callN G Fs N f [.ref i, .int m] h) fun v h' => PoolAt i h0 h' ∧ ∃ d : Int, v = .int d ∧ 0 ≤ d ∧ d < m := by
  obtain ⟨n, rfl⟩ : ∃ n, N = n + 1 := ⟨N - 1, by omega⟩
  obtain ⟨a, b, h1, h2, h3⟩ := p.get
  obtain ⟨d, a', b', k1, k2, k3, k4, e⟩ := draw_eq (G := G) (n := n) hF h3 h1 h2 hm hm2
  rw [e]
  exact ⟨p.set k3 k4, d, rfl, k1, k2⟩
theorem choose_ok {N i g : Nat} {xs : List D} {h0 h : Hs} (hN : 2 ≤ N) (hF : Fs[f]? = some (Fchoose g)) (hG : Fs[g]? = some Fdraw) (p : PoolAt i h0 h) (hx : 0 < xs.length) (hx2 : xs.length < 1073741824) :
    okR (callN G Fs N f [.ref i, .lst xs] h) fun v h' => PoolAt i h0 h' ∧ v ∈ xs := by
  obtain ⟨n, rfl⟩ : ∃ n, N = n + 2 := ⟨N - 2, by omega⟩
  have e1 : callN G Fs (n + 2) f [.ref i, .lst xs] h = (match evSs G (callN G Fs (n + 1)) (Fchoose g).body [some (.ref i), some (.lst xs)] h with
      | .ok (.rt v) _ h => .ok v h
      | .ok .nx _ h => .ok .non h
      | .exc c fs _ h => .exc c fs h
      | _ => .bad) := by
    simp only [callN, hF]
    try rfl
  rw [e1]
  obtain ⟨v, h', e, p', d, rfl, d0, d1⟩ := okR_inv (draw_ok (G := G) (N := n + 1) (by omega) hG p (m := xs.length) (by omega) (by omega))
  obtain ⟨x, hx, ea, _⟩ := at_lt d0 d1
  simp (config := {implicitDefEqProofs := false}) only [Fchoose, evSs, evS, evE, evEs, List.getElem?_cons_zero, List.getElem?_cons_succ, R.q_ok, R.bind_ok, R.of_some, Q.bind_nx, Q.bind_rt, biD, seqV, endCall, e, ix_frz, ea]
  exact ⟨p', hx⟩
end
end L2.MP
/-! MpP2: the table of plain readings (printed by a program in part). -/
namespace L2.MP
open PySem
section
variable {G : Gl} {h : Hs} {i j : Int} {b b' : Bool} {s t : List Nat} {xs ys : List D} {x y : D}
theorem isTys_nil : isTys G h x [] = some false := rfl
theorem isTys_cons {t : Ty} {ts : List Ty} : isTys G h x (t :: ts) = (isTy G h x t).bind fun b => if b then some true else isTys G h x ts := rfl
theorem ty_int_non : isTy G h D.non .int = some false := rfl
theorem ty_int_bl : isTy G h (D.bl b) .int = some true := rfl
theorem ty_int_int : isTy G h (D.int i) .int = some true := rfl
theorem ty_int_str : isTy G h (D.str s) .int = some false := rfl
theorem ty_int_tup : isTy G h (D.tup xs) .int = some false := rfl
theorem ty_int_lst : isTy G h (D.lst xs) .int = some false := rfl
theorem ty_int_dic : isTy G h (D.dic xs ys) .int = some false := rfl
theorem ty_int_ref {k : Nat} (e : h[k]? = some (.lst xs)) : isTy G h (.ref k) .int = some false := by
  show ((h[k]?).bind seqN).map _ = _
  rw [e]
  rfl
theorem ty_bool_non : isTy G h D.non .bool = some false := rfl
theorem ty_bool_bl : isTy G h (D.bl b) .bool = some true := rfl
theorem ty_bool_int : isTy G h (D.int i) .bool = some false := rfl
theorem ty_bool_str : isTy G h (D.str s) .bool = some false := rfl
theorem ty_bool_tup : isTy G h (D.tup xs) .bool = some false := rfl
theorem ty_bool_lst : isTy G h (D.lst xs) .bool = some false := rfl
theorem ty_bool_dic : isTy G h (D.dic xs ys) .bool = some false := rfl
theorem ty_bool_ref {k : Nat} (e : h[k]? = some (.lst xs)) : isTy G h (.ref k) .bool = some false := by
  show ((h[k]?).bind seqN).map _ = _
  rw [e]
  rfl
theorem ty_str_non : isTy G h D.non .str = some false := rfl
theorem ty_str_bl : isTy G h (D.bl b) .str = some false := rfl
theorem ty_str_int : isTy G h (D.int i) .str = some false := rfl
theorem ty_str_str : isTy G h (D.str s) .str = some true := rfl
theorem ty_str_tup : isTy G h (D.tup xs) .str = some false := rfl
theorem ty_str_lst : isTy G h (D.lst xs) .str = some false := rfl
theorem ty_str_dic : isTy G h (D.dic xs ys) .str = some false := rfl
theorem ty_str_ref {k : Nat} (e : h[k]? = some (.lst xs)) : isTy G h (.ref k) .str = some false := by
  show ((h[k]?).bind seqN).map _ = _
  rw [e]
  rfl
theorem ty_tuple_non : isTy G h D.non .tuple = some false := rfl
theorem ty_tuple_bl : isTy G h (D.bl b) .tuple = some false := rfl
theorem ty_tuple_int : isTy G h (D.int i) .tuple = some false := rfl
theorem ty_tuple_str : isTy G h (D.str s) .tuple = some false := rfl
theorem ty_tuple_tup : isTy G h (D.tup xs) .tuple = some true := rfl
theorem ty_tuple_lst : isTy G h (D.lst xs) .tuple = some false := rfl
theorem ty_tuple_dic : isTy G h (D.dic xs ys) .tuple = some false := rfl
theorem ty_tuple_ref {k : Nat} (e : h[k]? = some (.lst xs)) : isTy G h (.ref k) .tuple = some false := by
  show ((h[k]?).bind seqN).map _ = _
  rw [e]
  rfl
theorem ty_list_non : isTy G h D.non .list = some false := rfl
theorem ty_list_bl : isTy G h (D.bl b) .list = some false := rfl
theorem ty_list_int : isTy G h (D.int i) .list = some false := rfl
theorem ty_list_str : isTy G h (D.str s) .list = some false := rfl
theorem ty_list_tup : isTy G h (D.tup xs) .list = some false := rfl
theorem ty_list_lst : isTy G h (D.lst xs) .list = some true := rfl
theorem ty_list_dic : isTy G h (D.dic xs ys) .list = some false := rfl
theorem ty_list_ref {k : Nat} (e : h[k]? = some (.lst xs)) : isTy G h (.ref k) .list = some true := by
  show ((h[k]?).bind seqN).map _ = _
  rw [e]
  rfl
theorem ty_dict_non : isTy G h D.non .dict = some false := rfl
theorem ty_dict_bl : isTy G h (D.bl b) .dict = some false := rfl
theorem ty_dict_int : isTy G h (D.int i) .dict = some false := rfl
theorem ty_dict_str : isTy G h (D.str s) .dict = some false := rfl
theorem ty_dict_tup : isTy G h (D.tup xs) .dict = some false := rfl
theorem ty_dict_lst : isTy G h (D.lst xs) .dict = some false := rfl
theorem ty_dict_dic : isTy G h (D.dic xs ys) .dict = some true := rfl
theorem ty_dict_ref {k : Nat} (e : h[k]? = some (.lst xs)) : isTy G h (.ref k) .dict = some false := by
  show ((h[k]?).bind seqN).map _ = _
  rw [e]
  rfl
theorem ty_err_exn {k : Nat} {n : String} {fs : List D} : isTy G h (.exn k fs) (.err n) = (G.exb[k]?).map (· == n) := rfl
theorem ty_own_exn {k c : Nat} {fs : List D} : isTy G h (.exn k fs) (.own c) = some (k == c) := rfl
theorem bi_len_str (q : s.length ≤ lim) {nd : Bool} : biD .len nd [.str s] h = .ok (.int s.length) h := if_pos q
theorem bi_len_scr {ns : List Int} {nd : Bool} : biD .len nd [.scr ns] h = .ok (.int ns.length) h := rfl
theorem bi_len_tup {nd : Bool} : biD .len nd [.tup xs] h = .ok (.int xs.length) h := rfl
theorem bi_len_lst {nd : Bool} : biD .len nd [.lst xs] h = .ok (.int xs.length) h := rfl
theorem bi_len_ref {k : Nat} (e : h[k]? = some (.lst xs)) {nd : Bool} : biD .len nd [.ref k] h = .ok (.int xs.length) h := by
  show (R.of (seqV h (.ref k)) h).bind _ = _
  simp only [seqV, e, Option.bind_some, seqN, R.of_some, R.bind_ok]
theorem bi_tuple_lst {nd : Bool} : biD .tuple nd [.lst xs] h = .ok (.tup xs) h := rfl
theorem bi_tuple_tup {nd : Bool} : biD .tuple nd [.tup xs] h = .ok (.tup xs) h := rfl
theorem bi_list_lst : biD .list false [.lst xs] h = .ok (.lst xs) h := rfl
theorem bi_list_tup : biD .list false [.tup xs] h = .ok (.lst xs) h := rfl
theorem bi_max {nd : Bool} : biD .max nd [.int i, .int j] h = .ok (.int (if j > i then j else i)) h := rfl
theorem bi_min {nd : Bool} : biD .min nd [.int i, .int j] h = .ok (.int (if j < i then j else i)) h := rfl
theorem mapO_map {α β γ : Type} {f : β → Option γ} {g : α → β} {k : α → γ} (q : ∀ a, f (g a) = some (k a)) : ∀ l : List α, mapO f (l.map g) = some (l.map k)
  | [] => rfl
  | a :: l => by simp only [List.map, mapO, q, mapO_map q l, Option.bind_some]
theorem mapO_map_mem {α β γ : Type} {f : β → Option γ} {g : α → β} {k : α → γ} : ∀ {l : List α}, (∀ a ∈ l, f (g a) = some (k a)) → mapO f (l.map g) = some (l.map k)
  | [], _ => rfl
  | a :: l, q => by simp only [List.map, mapO, q a (List.mem_cons_self ..), mapO_map_mem (l := l) fun b hb => q b (List.mem_cons_of_mem _ hb), Option.bind_some]
theorem mapO_mem {β γ : Type} {f : β → Option γ} {k : β → γ} {l : List β} (q : ∀ a ∈ l, f a = some (k a)) : mapO f l = some (l.map k) := by
  have := mapO_map_mem (f := f) (g := id) (k := k) (l := l) q
  simpa using this
theorem bools_map {α : Type} {p : α → Bool} {l : List α} : boolsO (l.map fun a => .bl (p a)) = some (l.map p) := by
  unfold boolsO
  exact mapO_map (g := fun a => D.bl (p a)) (k := p) (fun _ => rfl) l
theorem bi_all {α : Type} {p : α → Bool} {l : List α} {nd : Bool} : biD .all nd [.lst (l.map fun a => .bl (p a))] h = .ok (.bl (l.all p)) h := by
  show (R.of ((some _).bind boolsO) h).bind _ = _
  simp only [Option.bind_some, bools_map, R.of_some, R.bind_ok]
  congr 2
  simp [List.all_map, Function.comp_def]
theorem bi_any {α : Type} {p : α → Bool} {l : List α} {nd : Bool} : biD .any nd [.lst (l.map fun a => .bl (p a))] h = .ok (.bl (l.any p)) h := by
  show (R.of ((some _).bind boolsO) h).bind _ = _
  simp only [Option.bind_some, bools_map, R.of_some, R.bind_ok]
  congr 2
  simp [List.any_map, Function.comp_def]
theorem c_ins {k : Nat} : cmpD h .In (.str [k]) (.str s) = some (decide (k ∈ s)) := rfl
theorem c_nins {k : Nat} : cmpD h .NotIn (.str [k]) (.str s) = some (!decide (k ∈ s)) := rfl
theorem inD_seq {a : D} (ha : pl 40 a = true) (q : ∀ z ∈ xs, pl 40 z = true) (e : seqV h y = some xs) (hy : ∀ s, y ≠ .str s) : inD h a y = some (xs.any fun z => eqT z a) := by
  have h1 : inD h a y = (deep false h 40 a).bind fun a => (seqV h y).bind fun ys => (mapO (deep false h 40) ys).bind fun bs => some (bs.any fun z => eqT z a) := by
    cases y <;> first | rfl | exact absurd rfl (hy _)
  rw [h1, deep_pl ha, e]
  simp only [Option.bind_some, mapO_id fun z hz => deep_pl (q z hz)]
theorem c_in_tup {a : D} (ha : pl 40 a = true) (q : ∀ z ∈ xs, pl 40 z = true) : cmpD h .In a (.tup xs) = some (xs.any fun z => eqT z a) := by
  show inD h a (.tup xs) = _
  exact inD_seq (y := .tup xs) ha q rfl (by intro s z; cases z)
theorem c_in_lst {a : D} (ha : pl 40 a = true) (q : ∀ z ∈ xs, pl 40 z = true) : cmpD h .In a (.lst xs) = some (xs.any fun z => eqT z a) := by
  show inD h a (.lst xs) = _
  exact inD_seq (y := .lst xs) ha q rfl (by intro s z; cases z)
theorem c_nin_tup {a : D} (ha : pl 40 a = true) (q : ∀ z ∈ xs, pl 40 z = true) : cmpD h .NotIn a (.tup xs) = some (!xs.any fun z => eqT z a) := by
  show (inD h a (.tup xs)).map _ = _
  rw [inD_seq (y := .tup xs) ha q rfl (by intro s z; cases z)]
  rfl
theorem c_nin_lst {a : D} (ha : pl 40 a = true) (q : ∀ z ∈ xs, pl 40 z = true) : cmpD h .NotIn a (.lst xs) = some (!xs.any fun z => eqT z a) := by
  show (inD h a (.lst xs)).map _ = _
  rw [inD_seq (y := .lst xs) ha q rfl (by intro s z; cases z)]
  rfl
theorem m_part {c : Nat} (q : s.length ≤ lim) : mtD .partition (.str s) [.str [c]] h = match partS c s with
    | some (a, b) => .ok (.tup [.str a, .str [c], .str b]) h
    | none => .ok (.tup [.str s, .str [], .str []]) h := if_pos q
theorem m_split {c : Nat} (q : c < 256 ∧ s.length + 2 ≤ lim) : mtD .split (.str s) [.str [c]] h = .ok (.lst ((splitL c s).map .str)) h := if_pos q
theorem m_splitN {c : Nat} (q : c < 256 ∧ s.length + 2 ≤ lim) : mtD .splitN (.str s) [.str [c]] h = .ok (.ref h.length) (h ++ [.lst ((splitL c s).map .str)]) := if_pos q
theorem mt_splitN : mtTy .splitN (.str s) = true := rfl
theorem m_append {k : Nat} (e : h[k]? = some (.lst xs)) (q : xs.length < lim) : mtD .append (.ref k) [x] h = .ok .non (h.set k (.lst (xs ++ [x]))) := by
  show (match h[k]? with
    | some (Nd.lst xs) => if xs.length < lim then R.ok D.non (h.set k (.lst (xs ++ [x]))) else R.bad
    | none => R.bad) = _
  rw [e]
  exact if_pos q
theorem mt_append {k : Nat} : mtTy .append (.ref k) = true := rfl
theorem mt_part : mtTy .partition (.str s) = true := rfl
theorem mt_split : mtTy .split (.str s) = true := rfl
theorem mt_join : mtTy .join (.str s) = true := rfl
theorem strs_map {α : Type} {p : α → List Nat} {l : List α} : strsO (l.map fun a => .str (p a)) = some (l.map p) := by
  unfold strsO
  exact mapO_map (g := fun a => D.str (p a)) (k := p) (fun _ => rfl) l
theorem m_join_lst {ws : List (List Nat)} (e : strsO xs = some ws) (q : (joinL s ws).length + s.length ≤ lim) : mtD .join (.str s) [.lst xs] h = .ok (.str (joinL s ws)) h := by
  show (R.of ((some xs).bind strsO) h).bind _ = _
  simp only [Option.bind_some, e, R.of_some, R.bind_ok, if_pos q]
theorem sl_tup {lo hi : Option Int} : slD h (.tup xs) lo hi = some (.tup (cutL xs lo hi)) := rfl
theorem sl_lst {lo hi : Option Int} : slD h (.lst xs) lo hi = some (.lst (cutL xs lo hi)) := rfl
theorem sl_str {lo hi : Option Int} (q : s.length ≤ lim) : slD h (.str s) lo hi = some (.str (cutL s lo hi)) := if_pos q
theorem sl_ref {lo hi : Option Int} {k : Nat} (e : h[k]? = some (.lst xs)) : slD h (.ref k) lo hi = some (.lst (cutL xs lo hi)) := by
  show (lstV h (.ref k)).map _ = _
  simp only [lstV, e, Option.bind_some, seqN, Option.map_some]
end
/-! ### cutting -/
theorem ix_hi {n d : Nat} {k : Int} (h0 : 0 ≤ k) (h1 : k ≤ n) : HT.sIx n d (some k) = k.toNat := by
  have e : ((k.toNat : Nat) : Int) = k := by omega
  have := HT.sIx_nat n d k.toNat
  rw [e] at this
  rw [this]
  omega
theorem ix_neg {n d : Nat} {k : Int} (h0 : k < 0) : HT.sIx n d (some k) = (k + n).toNat := if_pos h0
theorem cut_take {α : Type} {xs : List α} {k : Int} (h0 : 0 ≤ k) (h1 : k ≤ xs.length) : cutL xs none (some k) = xs.take k.toNat := by
  unfold cutL
  rw [ix_hi h0 h1, HT.sIx_none]
  simp
theorem cut_drop {α : Type} {xs : List α} {k : Int} (h0 : 0 ≤ k) (h1 : k ≤ xs.length) : cutL xs (some k) none = xs.drop k.toNat := by
  unfold cutL
  rw [ix_hi h0 h1, HT.sIx_none]
  rw [List.take_of_length_le (by simp)]
theorem cut_last {α : Type} {xs : List α} {y : α} : cutL (xs ++ [y]) none (some (-1)) = xs := by
  unfold cutL
  rw [ix_neg (by decide), HT.sIx_none]
  have e : ((-1 : Int) + ((xs ++ [y]).length : Nat)).toNat = xs.length := by
    simp only [List.length_append, List.length_cons, List.length_nil]
    omega
  rw [e]
  simp
end L2.MP
/-! MpW: what the program's words module computes (expanded by pp.py). -/
namespace L2.MP
open PySem
/-- no node, no exception, not the script -/
def tm : D → Bool
  | .ref _ => false
  | .exn _ _ => false
  | .scr _ => false
  | _ => true
def lets : List Nat := [97, 98, 99, 100, 101, 102, 103, 104, 105, 106, 107, 108, 109, 110, 111, 112, 113, 114, 115, 116, 117, 118, 119, 120, 121, 122]
def digs : List Nat := [48, 49, 50, 51, 52, 53, 54, 55, 56, 57]
def kwL : List (List Nat) := [[97, 98, 111, 118, 101], [97, 99, 116], [97, 102, 116, 101, 114], [97, 110, 100], [97, 110, 121], [98, 101, 99, 111, 109, 101, 115], [98, 101, 102, 111, 114, 101], [98, 101, 108, 111, 119], [101, 120, 99, 101, 112, 116], [102, 105, 114, 115, 116], [102, 111, 114], [102, 114, 111, 109], [104, 101, 114, 101], [105, 102], [105, 110], [105, 115], [108, 105, 110, 101], [109, 101, 97, 110, 115], [110, 111, 116], [110, 111, 116, 119, 105, 116, 104, 115, 116, 97, 110, 100, 105, 110, 103], [111, 102], [111, 114], [112, 108, 117, 115], [112, 117, 116], [114, 101, 112, 101, 97, 108, 101, 100], [115, 101, 99, 116, 105, 111, 110], [115, 117, 98, 106, 101, 99, 116], [116, 105, 109, 101, 115], [116, 111], [117, 110, 108, 101, 115, 115], [117, 110, 116, 105, 108], [119, 105, 116, 104, 105, 110]]
theorem mapR_mapL {α : Type} {s : Src} {f : D → Hs → R (Option D)} {h : Hs} (k g : α → D) (hc : chk s h = true) : ∀ {l : List α}, (∀ a ∈ l, f (k a) h = .ok (some (g a)) h) → mapR s f (l.map k) h = .ok (l.map g) h
  | [], _ => by
    simp only [List.map, mapR]
    rw [if_pos hc]
  | x :: xs, q => by
    simp only [List.map, mapR]
    rw [if_pos hc, q x (List.mem_cons_self ..)]
    simp only [R.bind_ok]
    rw [mapR_mapL k g hc fun y hy => q y (List.mem_cons_of_mem _ hy)]
    rfl
/-! ### is_integer, in_range, is_day -/
def Fint : Fn := ⟨1, 1, [.ret (some (.and (.isi (.var 0) [.int]) (.not (.isi (.var 0) [.bool]))))]⟩
def Frange (fi : Nat) : Fn := ⟨3, 3, [.ret (some (.and (.call fi [.var 0] .pure) (.chn .LtE .LtE (.var 1) (.var 0) (.var 2))))]⟩
def Fday (fr gd : Nat) : Fn := ⟨1, 1, [.ret (some (.call fr [.var 0, .cst (.int 0), .glb gd] .pure))]⟩
def isInt : D → Bool
  | .int _ => true
  | _ => false
def inR (lo hi : Int) : D → Bool
  | .int i => decide (lo ≤ i) && decide (i ≤ hi)
  | _ => false
def isDay (d : D) : Bool := inR 0 9999 d
section
variable {G : Gl} {Fs : List Fn} {m f : Nat}
theorem int_ok (hm : 1 ≤ m) (hF : Fs[f]? = some Fint) {d : D} (hd : tm d = true) (h : Hs) : callN G Fs m f [d] h = .ok (.bl (isInt d)) h := by
  obtain ⟨n, rfl⟩ : ∃ n, m = n + 1 := ⟨m - 1, by omega⟩
  rw [callN_eq hF rfl]
  cases d <;> first | (simp [tm] at hd; done) | (simp (config := {implicitDefEqProofs := false}) only [evSs_nil, nx_nx, nx_rt, evS, evE, evEs, evO, evC, evI, R.bind_ok, R.bind_exc, R.q_ok, R.q_exc, R.of_some, R.nox_ok, Q.bind_nx, Q.bind_rt, Q.bind_bk, Q.bind_ct, Q.bind_exc, fin_rt, fin_nx, fin_exc, List.getElem?_cons_zero, List.getElem?_cons_succ, List.set_cons_zero, List.set_cons_succ, asgT, asgTs, lstOf, wipeS, srcOf, if_true, if_false, Bool.false_eq_true, Bool.true_eq_false, Bool.not_true, Bool.not_false, decide_true, decide_false, t_bl, t_int, t_non, t_tup, t_lst, c_lt, c_le, c_gt, c_ge, c_eqi, c_nei, c_eqs, c_nes, c_isN, c_isnN, c_isB, c_isnB, b_add, b_sub, ix_tup, ix_frz, ix_scr, at0, at1, isTys_nil, isTys_cons, ty_int_non, ty_int_bl, ty_int_int, ty_int_str, ty_int_tup, ty_int_lst, ty_int_dic, ty_bool_non, ty_bool_bl, ty_bool_int, ty_bool_str, ty_bool_tup, ty_bool_lst, ty_bool_dic, ty_str_non, ty_str_bl, ty_str_int, ty_str_str, ty_str_tup, ty_str_lst, ty_str_dic, ty_tuple_non, ty_tuple_bl, ty_tuple_int, ty_tuple_str, ty_tuple_tup, ty_tuple_lst, ty_tuple_dic, ty_list_non, ty_list_bl, ty_list_int, ty_list_str, ty_list_tup, ty_list_lst, ty_list_dic, ty_dict_non, ty_dict_bl, ty_dict_int, ty_dict_str, ty_dict_tup, ty_dict_lst, ty_dict_dic, ty_err_exn, ty_own_exn, bi_len_scr, bi_len_tup, bi_len_lst, bi_tuple_lst, bi_tuple_tup, bi_list_lst, bi_list_tup, bi_max, bi_min, mt_append, mt_part, mt_split, mt_splitN, mt_join, sl_tup, sl_lst, seqV, end_raw, Option.bind_some, Option.map_some, chk_nil, List.append_nil, okR_ok, okQ_ok, c_ins, c_nins, Int.cast_ofNat_Int, List.length_cons, List.length_nil, List.cons.injEq, and_self, and_true, true_and, and_false, false_and, Nat.zero_add, not_true_eq_false, not_false_eq_true, Bool.true_and, Bool.and_true, Bool.false_and, Bool.and_false, Bool.true_or, Bool.or_true, Bool.false_or, Bool.or_false, beq_self_eq_true, eq_self, evSs, Fint, isInt, List.map_cons, List.map_nil, List.replicate, List.cons_append, List.nil_append, Nat.reduceBEq, Int.reduceBEq, String.reduceBEq, String.reduceEq, Nat.reduceEqDiff, reduceCtorEq, Int.reduceNeg, Int.reduceLT, Int.reduceLE, Int.reduceEq, Int.reduceAdd, Int.reduceSub, Nat.reduceLT, Nat.reduceLeDiff, Nat.reduceAdd, Nat.reduceSub, Nat.reduceEqDiff])
theorem range_ok {fi : Nat} (hm : 2 ≤ m) (hF : Fs[f]? = some (Frange fi)) (hI : Fs[fi]? = some Fint) {d : D} (hd : tm d = true) (lo hi : Int) (h : Hs) : callN G Fs m f [d, .int lo, .int hi] h = .ok (.bl (inR lo hi d)) h := by
  obtain ⟨n, rfl⟩ : ∃ n, m = n + 1 := ⟨m - 1, by omega⟩
  rw [callN_eq hF rfl]
  simp (config := {implicitDefEqProofs := false}) only [evSs_nil, nx_nx, nx_rt, evS, evE, evEs, evO, evC, evI, R.bind_ok, R.bind_exc, R.q_ok, R.q_exc, R.of_some, R.nox_ok, Q.bind_nx, Q.bind_rt, Q.bind_bk, Q.bind_ct, Q.bind_exc, fin_rt, fin_nx, fin_exc, List.getElem?_cons_zero, List.getElem?_cons_succ, List.set_cons_zero, List.set_cons_succ, asgT, asgTs, lstOf, wipeS, srcOf, if_true, if_false, Bool.false_eq_true, Bool.true_eq_false, Bool.not_true, Bool.not_false, decide_true, decide_false, t_bl, t_int, t_non, t_tup, t_lst, c_lt, c_le, c_gt, c_ge, c_eqi, c_nei, c_eqs, c_nes, c_isN, c_isnN, c_isB, c_isnB, b_add, b_sub, ix_tup, ix_frz, ix_scr, at0, at1, isTys_nil, isTys_cons, ty_int_non, ty_int_bl, ty_int_int, ty_int_str, ty_int_tup, ty_int_lst, ty_int_dic, ty_bool_non, ty_bool_bl, ty_bool_int, ty_bool_str, ty_bool_tup, ty_bool_lst, ty_bool_dic, ty_str_non, ty_str_bl, ty_str_int, ty_str_str, ty_str_tup, ty_str_lst, ty_str_dic, ty_tuple_non, ty_tuple_bl, ty_tuple_int, ty_tuple_str, ty_tuple_tup, ty_tuple_lst, ty_tuple_dic, ty_list_non, ty_list_bl, ty_list_int, ty_list_str, ty_list_tup, ty_list_lst, ty_list_dic, ty_dict_non, ty_dict_bl, ty_dict_int, ty_dict_str, ty_dict_tup, ty_dict_lst, ty_dict_dic, ty_err_exn, ty_own_exn, bi_len_scr, bi_len_tup, bi_len_lst, bi_tuple_lst, bi_tuple_tup, bi_list_lst, bi_list_tup, bi_max, bi_min, mt_append, mt_part, mt_split, mt_splitN, mt_join, sl_tup, sl_lst, seqV, end_raw, Option.bind_some, Option.map_some, chk_nil, List.append_nil, okR_ok, okQ_ok, c_ins, c_nins, Int.cast_ofNat_Int, List.length_cons, List.length_nil, List.cons.injEq, and_self, and_true, true_and, and_false, false_and, Nat.zero_add, not_true_eq_false, not_false_eq_true, Bool.true_and, Bool.and_true, Bool.false_and, Bool.and_false, Bool.true_or, Bool.or_true, Bool.false_or, Bool.or_false, beq_self_eq_true, eq_self, evSs, Frange, List.map_cons, List.map_nil, List.replicate, List.cons_append, List.nil_append, int_ok (show 1 ≤ n by omega) hI hd, end_pure0 (show pl 40 (.bl (isInt d)) = true from rfl), Nat.reduceBEq, Int.reduceBEq, String.reduceBEq, String.reduceEq, Nat.reduceEqDiff, reduceCtorEq, Int.reduceNeg, Int.reduceLT, Int.reduceLE, Int.reduceEq, Int.reduceAdd, Int.reduceSub, Nat.reduceLT, Nat.reduceLeDiff, Nat.reduceAdd, Nat.reduceSub, Nat.reduceEqDiff]
  cases d with
  | int i =>
    simp (config := {implicitDefEqProofs := false}) only [evSs_nil, nx_nx, nx_rt, evS, evE, evEs, evO, evC, evI, R.bind_ok, R.bind_exc, R.q_ok, R.q_exc, R.of_some, R.nox_ok, Q.bind_nx, Q.bind_rt, Q.bind_bk, Q.bind_ct, Q.bind_exc, fin_rt, fin_nx, fin_exc, List.getElem?_cons_zero, List.getElem?_cons_succ, List.set_cons_zero, List.set_cons_succ, asgT, asgTs, lstOf, wipeS, srcOf, if_true, if_false, Bool.false_eq_true, Bool.true_eq_false, Bool.not_true, Bool.not_false, decide_true, decide_false, t_bl, t_int, t_non, t_tup, t_lst, c_lt, c_le, c_gt, c_ge, c_eqi, c_nei, c_eqs, c_nes, c_isN, c_isnN, c_isB, c_isnB, b_add, b_sub, ix_tup, ix_frz, ix_scr, at0, at1, isTys_nil, isTys_cons, ty_int_non, ty_int_bl, ty_int_int, ty_int_str, ty_int_tup, ty_int_lst, ty_int_dic, ty_bool_non, ty_bool_bl, ty_bool_int, ty_bool_str, ty_bool_tup, ty_bool_lst, ty_bool_dic, ty_str_non, ty_str_bl, ty_str_int, ty_str_str, ty_str_tup, ty_str_lst, ty_str_dic, ty_tuple_non, ty_tuple_bl, ty_tuple_int, ty_tuple_str, ty_tuple_tup, ty_tuple_lst, ty_tuple_dic, ty_list_non, ty_list_bl, ty_list_int, ty_list_str, ty_list_tup, ty_list_lst, ty_list_dic, ty_dict_non, ty_dict_bl, ty_dict_int, ty_dict_str, ty_dict_tup, ty_dict_lst, ty_dict_dic, ty_err_exn, ty_own_exn, bi_len_scr, bi_len_tup, bi_len_lst, bi_tuple_lst, bi_tuple_tup, bi_list_lst, bi_list_tup, bi_max, bi_min, mt_append, mt_part, mt_split, mt_splitN, mt_join, sl_tup, sl_lst, seqV, end_raw, Option.bind_some, Option.map_some, chk_nil, List.append_nil, okR_ok, okQ_ok, c_ins, c_nins, Int.cast_ofNat_Int, List.length_cons, List.length_nil, List.cons.injEq, and_self, and_true, true_and, and_false, false_and, Nat.zero_add, not_true_eq_false, not_false_eq_true, Bool.true_and, Bool.and_true, Bool.false_and, Bool.and_false, Bool.true_or, Bool.or_true, Bool.false_or, Bool.or_false, beq_self_eq_true, eq_self, isInt, inR, Nat.reduceBEq, Int.reduceBEq, String.reduceBEq, String.reduceEq, Nat.reduceEqDiff, reduceCtorEq, Int.reduceNeg, Int.reduceLT, Int.reduceLE, Int.reduceEq, Int.reduceAdd, Int.reduceSub, Nat.reduceLT, Nat.reduceLeDiff, Nat.reduceAdd, Nat.reduceSub, Nat.reduceEqDiff]
    by_cases h1 : lo ≤ i
    · simp (config := {implicitDefEqProofs := false}) only [evSs_nil, nx_nx, nx_rt, evS, evE, evEs, evO, evC, evI, R.bind_ok, R.bind_exc, R.q_ok, R.q_exc, R.of_some, R.nox_ok, Q.bind_nx, Q.bind_rt, Q.bind_bk, Q.bind_ct, Q.bind_exc, fin_rt, fin_nx, fin_exc, List.getElem?_cons_zero, List.getElem?_cons_succ, List.set_cons_zero, List.set_cons_succ, asgT, asgTs, lstOf, wipeS, srcOf, if_true, if_false, Bool.false_eq_true, Bool.true_eq_false, Bool.not_true, Bool.not_false, decide_true, decide_false, t_bl, t_int, t_non, t_tup, t_lst, c_lt, c_le, c_gt, c_ge, c_eqi, c_nei, c_eqs, c_nes, c_isN, c_isnN, c_isB, c_isnB, b_add, b_sub, ix_tup, ix_frz, ix_scr, at0, at1, isTys_nil, isTys_cons, ty_int_non, ty_int_bl, ty_int_int, ty_int_str, ty_int_tup, ty_int_lst, ty_int_dic, ty_bool_non, ty_bool_bl, ty_bool_int, ty_bool_str, ty_bool_tup, ty_bool_lst, ty_bool_dic, ty_str_non, ty_str_bl, ty_str_int, ty_str_str, ty_str_tup, ty_str_lst, ty_str_dic, ty_tuple_non, ty_tuple_bl, ty_tuple_int, ty_tuple_str, ty_tuple_tup, ty_tuple_lst, ty_tuple_dic, ty_list_non, ty_list_bl, ty_list_int, ty_list_str, ty_list_tup, ty_list_lst, ty_list_dic, ty_dict_non, ty_dict_bl, ty_dict_int, ty_dict_str, ty_dict_tup, ty_dict_lst, ty_dict_dic, ty_err_exn, ty_own_exn, bi_len_scr, bi_len_tup, bi_len_lst, bi_tuple_lst, bi_tuple_tup, bi_list_lst, bi_list_tup, bi_max, bi_min, mt_append, mt_part, mt_split, mt_splitN, mt_join, sl_tup, sl_lst, seqV, end_raw, Option.bind_some, Option.map_some, chk_nil, List.append_nil, okR_ok, okQ_ok, c_ins, c_nins, Int.cast_ofNat_Int, List.length_cons, List.length_nil, List.cons.injEq, and_self, and_true, true_and, and_false, false_and, Nat.zero_add, not_true_eq_false, not_false_eq_true, Bool.true_and, Bool.and_true, Bool.false_and, Bool.and_false, Bool.true_or, Bool.or_true, Bool.false_or, Bool.or_false, beq_self_eq_true, eq_self, h1, Nat.reduceBEq, Int.reduceBEq, String.reduceBEq, String.reduceEq, Nat.reduceEqDiff, reduceCtorEq, Int.reduceNeg, Int.reduceLT, Int.reduceLE, Int.reduceEq, Int.reduceAdd, Int.reduceSub, Nat.reduceLT, Nat.reduceLeDiff, Nat.reduceAdd, Nat.reduceSub, Nat.reduceEqDiff]
    · simp (config := {implicitDefEqProofs := false}) only [evSs_nil, nx_nx, nx_rt, evS, evE, evEs, evO, evC, evI, R.bind_ok, R.bind_exc, R.q_ok, R.q_exc, R.of_some, R.nox_ok, Q.bind_nx, Q.bind_rt, Q.bind_bk, Q.bind_ct, Q.bind_exc, fin_rt, fin_nx, fin_exc, List.getElem?_cons_zero, List.getElem?_cons_succ, List.set_cons_zero, List.set_cons_succ, asgT, asgTs, lstOf, wipeS, srcOf, if_true, if_false, Bool.false_eq_true, Bool.true_eq_false, Bool.not_true, Bool.not_false, decide_true, decide_false, t_bl, t_int, t_non, t_tup, t_lst, c_lt, c_le, c_gt, c_ge, c_eqi, c_nei, c_eqs, c_nes, c_isN, c_isnN, c_isB, c_isnB, b_add, b_sub, ix_tup, ix_frz, ix_scr, at0, at1, isTys_nil, isTys_cons, ty_int_non, ty_int_bl, ty_int_int, ty_int_str, ty_int_tup, ty_int_lst, ty_int_dic, ty_bool_non, ty_bool_bl, ty_bool_int, ty_bool_str, ty_bool_tup, ty_bool_lst, ty_bool_dic, ty_str_non, ty_str_bl, ty_str_int, ty_str_str, ty_str_tup, ty_str_lst, ty_str_dic, ty_tuple_non, ty_tuple_bl, ty_tuple_int, ty_tuple_str, ty_tuple_tup, ty_tuple_lst, ty_tuple_dic, ty_list_non, ty_list_bl, ty_list_int, ty_list_str, ty_list_tup, ty_list_lst, ty_list_dic, ty_dict_non, ty_dict_bl, ty_dict_int, ty_dict_str, ty_dict_tup, ty_dict_lst, ty_dict_dic, ty_err_exn, ty_own_exn, bi_len_scr, bi_len_tup, bi_len_lst, bi_tuple_lst, bi_tuple_tup, bi_list_lst, bi_list_tup, bi_max, bi_min, mt_append, mt_part, mt_split, mt_splitN, mt_join, sl_tup, sl_lst, seqV, end_raw, Option.bind_some, Option.map_some, chk_nil, List.append_nil, okR_ok, okQ_ok, c_ins, c_nins, Int.cast_ofNat_Int, List.length_cons, List.length_nil, List.cons.injEq, and_self, and_true, true_and, and_false, false_and, Nat.zero_add, not_true_eq_false, not_false_eq_true, Bool.true_and, Bool.and_true, Bool.false_and, Bool.and_false, Bool.true_or, Bool.or_true, Bool.false_or, Bool.or_false, beq_self_eq_true, eq_self, h1, Nat.reduceBEq, Int.reduceBEq, String.reduceBEq, String.reduceEq, Nat.reduceEqDiff, reduceCtorEq, Int.reduceNeg, Int.reduceLT, Int.reduceLE, Int.reduceEq, Int.reduceAdd, Int.reduceSub, Nat.reduceLT, Nat.reduceLeDiff, Nat.reduceAdd, Nat.reduceSub, Nat.reduceEqDiff]
  | _ => simp (config := {implicitDefEqProofs := false}) only [evSs_nil, nx_nx, nx_rt, evS, evE, evEs, evO, evC, evI, R.bind_ok, R.bind_exc, R.q_ok, R.q_exc, R.of_some, R.nox_ok, Q.bind_nx, Q.bind_rt, Q.bind_bk, Q.bind_ct, Q.bind_exc, fin_rt, fin_nx, fin_exc, List.getElem?_cons_zero, List.getElem?_cons_succ, List.set_cons_zero, List.set_cons_succ, asgT, asgTs, lstOf, wipeS, srcOf, if_true, if_false, Bool.false_eq_true, Bool.true_eq_false, Bool.not_true, Bool.not_false, decide_true, decide_false, t_bl, t_int, t_non, t_tup, t_lst, c_lt, c_le, c_gt, c_ge, c_eqi, c_nei, c_eqs, c_nes, c_isN, c_isnN, c_isB, c_isnB, b_add, b_sub, ix_tup, ix_frz, ix_scr, at0, at1, isTys_nil, isTys_cons, ty_int_non, ty_int_bl, ty_int_int, ty_int_str, ty_int_tup, ty_int_lst, ty_int_dic, ty_bool_non, ty_bool_bl, ty_bool_int, ty_bool_str, ty_bool_tup, ty_bool_lst, ty_bool_dic, ty_str_non, ty_str_bl, ty_str_int, ty_str_str, ty_str_tup, ty_str_lst, ty_str_dic, ty_tuple_non, ty_tuple_bl, ty_tuple_int, ty_tuple_str, ty_tuple_tup, ty_tuple_lst, ty_tuple_dic, ty_list_non, ty_list_bl, ty_list_int, ty_list_str, ty_list_tup, ty_list_lst, ty_list_dic, ty_dict_non, ty_dict_bl, ty_dict_int, ty_dict_str, ty_dict_tup, ty_dict_lst, ty_dict_dic, ty_err_exn, ty_own_exn, bi_len_scr, bi_len_tup, bi_len_lst, bi_tuple_lst, bi_tuple_tup, bi_list_lst, bi_list_tup, bi_max, bi_min, mt_append, mt_part, mt_split, mt_splitN, mt_join, sl_tup, sl_lst, seqV, end_raw, Option.bind_some, Option.map_some, chk_nil, List.append_nil, okR_ok, okQ_ok, c_ins, c_nins, Int.cast_ofNat_Int, List.length_cons, List.length_nil, List.cons.injEq, and_self, and_true, true_and, and_false, false_and, Nat.zero_add, not_true_eq_false, not_false_eq_true, Bool.true_and, Bool.and_true, Bool.false_and, Bool.and_false, Bool.true_or, Bool.or_true, Bool.false_or, Bool.or_false, beq_self_eq_true, eq_self, isInt, inR, Nat.reduceBEq, Int.reduceBEq, String.reduceBEq, String.reduceEq, Nat.reduceEqDiff, reduceCtorEq, Int.reduceNeg, Int.reduceLT, Int.reduceLE, Int.reduceEq, Int.reduceAdd, Int.reduceSub, Nat.reduceLT, Nat.reduceLeDiff, Nat.reduceAdd, Nat.reduceSub, Nat.reduceEqDiff]
theorem day_ok {fi fr gd : Nat} (hm : 3 ≤ m) (hF : Fs[f]? = some (Fday fr gd)) (hR : Fs[fr]? = some (Frange fi)) (hI : Fs[fi]? = some Fint) (hG : G.gls[gd]? = some (.int 9999)) {d : D} (hd : tm d = true) (h : Hs) : callN G Fs m f [d] h = .ok (.bl (isDay d)) h := by
  obtain ⟨n, rfl⟩ : ∃ n, m = n + 1 := ⟨m - 1, by omega⟩
  rw [callN_eq hF rfl]
  simp (config := {implicitDefEqProofs := false}) only [evSs_nil, nx_nx, nx_rt, evS, evE, evEs, evO, evC, evI, R.bind_ok, R.bind_exc, R.q_ok, R.q_exc, R.of_some, R.nox_ok, Q.bind_nx, Q.bind_rt, Q.bind_bk, Q.bind_ct, Q.bind_exc, fin_rt, fin_nx, fin_exc, List.getElem?_cons_zero, List.getElem?_cons_succ, List.set_cons_zero, List.set_cons_succ, asgT, asgTs, lstOf, wipeS, srcOf, if_true, if_false, Bool.false_eq_true, Bool.true_eq_false, Bool.not_true, Bool.not_false, decide_true, decide_false, t_bl, t_int, t_non, t_tup, t_lst, c_lt, c_le, c_gt, c_ge, c_eqi, c_nei, c_eqs, c_nes, c_isN, c_isnN, c_isB, c_isnB, b_add, b_sub, ix_tup, ix_frz, ix_scr, at0, at1, isTys_nil, isTys_cons, ty_int_non, ty_int_bl, ty_int_int, ty_int_str, ty_int_tup, ty_int_lst, ty_int_dic, ty_bool_non, ty_bool_bl, ty_bool_int, ty_bool_str, ty_bool_tup, ty_bool_lst, ty_bool_dic, ty_str_non, ty_str_bl, ty_str_int, ty_str_str, ty_str_tup, ty_str_lst, ty_str_dic, ty_tuple_non, ty_tuple_bl, ty_tuple_int, ty_tuple_str, ty_tuple_tup, ty_tuple_lst, ty_tuple_dic, ty_list_non, ty_list_bl, ty_list_int, ty_list_str, ty_list_tup, ty_list_lst, ty_list_dic, ty_dict_non, ty_dict_bl, ty_dict_int, ty_dict_str, ty_dict_tup, ty_dict_lst, ty_dict_dic, ty_err_exn, ty_own_exn, bi_len_scr, bi_len_tup, bi_len_lst, bi_tuple_lst, bi_tuple_tup, bi_list_lst, bi_list_tup, bi_max, bi_min, mt_append, mt_part, mt_split, mt_splitN, mt_join, sl_tup, sl_lst, seqV, end_raw, Option.bind_some, Option.map_some, chk_nil, List.append_nil, okR_ok, okQ_ok, c_ins, c_nins, Int.cast_ofNat_Int, List.length_cons, List.length_nil, List.cons.injEq, and_self, and_true, true_and, and_false, false_and, Nat.zero_add, not_true_eq_false, not_false_eq_true, Bool.true_and, Bool.and_true, Bool.false_and, Bool.and_false, Bool.true_or, Bool.or_true, Bool.false_or, Bool.or_false, beq_self_eq_true, eq_self, evSs, Fday, hG, List.map_cons, List.map_nil, List.replicate, List.cons_append, List.nil_append, range_ok (show 2 ≤ n by omega) hR hI hd, end_pure0 (show pl 40 (.bl (inR 0 9999 d)) = true from rfl), isDay, Nat.reduceBEq, Int.reduceBEq, String.reduceBEq, String.reduceEq, Nat.reduceEqDiff, reduceCtorEq, Int.reduceNeg, Int.reduceLT, Int.reduceLE, Int.reduceEq, Int.reduceAdd, Int.reduceSub, Nat.reduceLT, Nat.reduceLeDiff, Nat.reduceAdd, Nat.reduceSub, Nat.reduceEqDiff]
/-! ### is_word -/
def Fword (kw le di ml : Nat) : Fn := ⟨1, 2, [.ite (.or (.not (.isi (.var 0) [.str])) (.cmp .Eq (.var 0) (.cst (.str [])))) [.ret (some (.cst (.bl false)))] [],
  .ite (.not (.bi .all [.lc [1] (.nm 1) (.ex (.var 0)) none (.cmp .In (.var 1) (.bin .Add (.glb le) (.glb di))) false] false)) [.ret (some (.cst (.bl false)))] [],
  .ret (some (.or (.cmp .LtE (.bi .len [.var 0] false) (.glb ml)) (.cmp .In (.var 0) (.glb kw))))]⟩
def isWordS (s : List Nat) : Bool := !s.isEmpty && s.all (fun c => decide (c ∈ lets ++ digs)) && (decide (s.length ≤ 8) || kwL.any fun t => t == s)
def isWord : D → Bool
  | .str s => isWordS s
  | _ => false
/-- the module's constants -/
structure GW (G : Gl) (kw le di ml : Nat) : Prop where
  hkw : G.gls[kw]? = some (.tup (kwL.map .str))
  hle : G.gls[le]? = some (.str lets)
  hdi : G.gls[di]? = some (.str digs)
  hml : G.gls[ml]? = some (.int 8)
def shS (n : Nat) : D → Bool
  | .str s => decide (s.length < n)
  | _ => true
theorem word_ok {kw le di ml : Nat} (hm : 1 ≤ m) (hF : Fs[f]? = some (Fword kw le di ml)) (g : GW G kw le di ml) {d : D} (hd : tm d = true) (hs : shS lim d = true) (h : Hs) : callN G Fs m f [d] h = .ok (.bl (isWord d)) h := by
  obtain ⟨n, rfl⟩ : ∃ n, m = n + 1 := ⟨m - 1, by omega⟩
  rw [callN_eq hF rfl]
  cases d with
  | str s =>
    cases s with
    | nil => simp (config := {implicitDefEqProofs := false}) only [evSs_nil, nx_nx, nx_rt, evS, evE, evEs, evO, evC, evI, R.bind_ok, R.bind_exc, R.q_ok, R.q_exc, R.of_some, R.nox_ok, Q.bind_nx, Q.bind_rt, Q.bind_bk, Q.bind_ct, Q.bind_exc, fin_rt, fin_nx, fin_exc, List.getElem?_cons_zero, List.getElem?_cons_succ, List.set_cons_zero, List.set_cons_succ, asgT, asgTs, lstOf, wipeS, srcOf, if_true, if_false, Bool.false_eq_true, Bool.true_eq_false, Bool.not_true, Bool.not_false, decide_true, decide_false, t_bl, t_int, t_non, t_tup, t_lst, c_lt, c_le, c_gt, c_ge, c_eqi, c_nei, c_eqs, c_nes, c_isN, c_isnN, c_isB, c_isnB, b_add, b_sub, ix_tup, ix_frz, ix_scr, at0, at1, isTys_nil, isTys_cons, ty_int_non, ty_int_bl, ty_int_int, ty_int_str, ty_int_tup, ty_int_lst, ty_int_dic, ty_bool_non, ty_bool_bl, ty_bool_int, ty_bool_str, ty_bool_tup, ty_bool_lst, ty_bool_dic, ty_str_non, ty_str_bl, ty_str_int, ty_str_str, ty_str_tup, ty_str_lst, ty_str_dic, ty_tuple_non, ty_tuple_bl, ty_tuple_int, ty_tuple_str, ty_tuple_tup, ty_tuple_lst, ty_tuple_dic, ty_list_non, ty_list_bl, ty_list_int, ty_list_str, ty_list_tup, ty_list_lst, ty_list_dic, ty_dict_non, ty_dict_bl, ty_dict_int, ty_dict_str, ty_dict_tup, ty_dict_lst, ty_dict_dic, ty_err_exn, ty_own_exn, bi_len_scr, bi_len_tup, bi_len_lst, bi_tuple_lst, bi_tuple_tup, bi_list_lst, bi_list_tup, bi_max, bi_min, mt_append, mt_part, mt_split, mt_splitN, mt_join, sl_tup, sl_lst, seqV, end_raw, Option.bind_some, Option.map_some, chk_nil, List.append_nil, okR_ok, okQ_ok, c_ins, c_nins, Int.cast_ofNat_Int, List.length_cons, List.length_nil, List.cons.injEq, and_self, and_true, true_and, and_false, false_and, Nat.zero_add, not_true_eq_false, not_false_eq_true, Bool.true_and, Bool.and_true, Bool.false_and, Bool.and_false, Bool.true_or, Bool.or_true, Bool.false_or, Bool.or_false, beq_self_eq_true, eq_self, evSs, Fword, List.map_cons, List.map_nil, List.replicate, List.cons_append, List.nil_append, isWord, isWordS, List.isEmpty_nil, Nat.reduceBEq, Int.reduceBEq, String.reduceBEq, String.reduceEq, Nat.reduceEqDiff, reduceCtorEq, Int.reduceNeg, Int.reduceLT, Int.reduceLE, Int.reduceEq, Int.reduceAdd, Int.reduceSub, Nat.reduceLT, Nat.reduceLeDiff, Nat.reduceAdd, Nat.reduceSub, Nat.reduceEqDiff]
    | cons c s =>
      have hl : (c :: s).length < lim := of_decide_eq_true hs
      have hl2 : (c :: s).length ≤ lim := Nat.le_of_lt hl
      simp only [List.length_cons] at hl hl2
      simp (config := {implicitDefEqProofs := false}) only [evSs_nil, nx_nx, nx_rt, evS, evE, evEs, evO, evC, evI, R.bind_ok, R.bind_exc, R.q_ok, R.q_exc, R.of_some, R.nox_ok, Q.bind_nx, Q.bind_rt, Q.bind_bk, Q.bind_ct, Q.bind_exc, fin_rt, fin_nx, fin_exc, List.getElem?_cons_zero, List.getElem?_cons_succ, List.set_cons_zero, List.set_cons_succ, asgT, asgTs, lstOf, wipeS, srcOf, if_true, if_false, Bool.false_eq_true, Bool.true_eq_false, Bool.not_true, Bool.not_false, decide_true, decide_false, t_bl, t_int, t_non, t_tup, t_lst, c_lt, c_le, c_gt, c_ge, c_eqi, c_nei, c_eqs, c_nes, c_isN, c_isnN, c_isB, c_isnB, b_add, b_sub, ix_tup, ix_frz, ix_scr, at0, at1, isTys_nil, isTys_cons, ty_int_non, ty_int_bl, ty_int_int, ty_int_str, ty_int_tup, ty_int_lst, ty_int_dic, ty_bool_non, ty_bool_bl, ty_bool_int, ty_bool_str, ty_bool_tup, ty_bool_lst, ty_bool_dic, ty_str_non, ty_str_bl, ty_str_int, ty_str_str, ty_str_tup, ty_str_lst, ty_str_dic, ty_tuple_non, ty_tuple_bl, ty_tuple_int, ty_tuple_str, ty_tuple_tup, ty_tuple_lst, ty_tuple_dic, ty_list_non, ty_list_bl, ty_list_int, ty_list_str, ty_list_tup, ty_list_lst, ty_list_dic, ty_dict_non, ty_dict_bl, ty_dict_int, ty_dict_str, ty_dict_tup, ty_dict_lst, ty_dict_dic, ty_err_exn, ty_own_exn, bi_len_scr, bi_len_tup, bi_len_lst, bi_tuple_lst, bi_tuple_tup, bi_list_lst, bi_list_tup, bi_max, bi_min, mt_append, mt_part, mt_split, mt_splitN, mt_join, sl_tup, sl_lst, seqV, end_raw, Option.bind_some, Option.map_some, chk_nil, List.append_nil, okR_ok, okQ_ok, c_ins, c_nins, Int.cast_ofNat_Int, List.length_cons, List.length_nil, List.cons.injEq, and_self, and_true, true_and, and_false, false_and, Nat.zero_add, not_true_eq_false, not_false_eq_true, Bool.true_and, Bool.and_true, Bool.false_and, Bool.and_false, Bool.true_or, Bool.or_true, Bool.false_or, Bool.or_false, beq_self_eq_true, eq_self, evSs, Fword, List.map_cons, List.map_nil, List.replicate, List.cons_append, List.nil_append, List.length_map, hl, g.hle, g.hdi, b_adds (show lets.length + digs.length ≤ lim by decide), Nat.reduceBEq, Int.reduceBEq, String.reduceBEq, String.reduceEq, Nat.reduceEqDiff, reduceCtorEq, Int.reduceNeg, Int.reduceLT, Int.reduceLE, Int.reduceEq, Int.reduceAdd, Int.reduceSub, Nat.reduceLT, Nat.reduceLeDiff, Nat.reduceAdd, Nat.reduceSub, Nat.reduceEqDiff]
      rw [show D.str [c] :: List.map (fun c => D.str [c]) s = (c :: s).map (fun c => D.str [c]) from rfl]
      rw [mapR_mapL (fun c : Nat => D.str [c]) (fun c => D.bl (decide (c ∈ lets ++ digs))) rfl (fun a _ => by simp (config := {implicitDefEqProofs := false}) only [evSs_nil, nx_nx, nx_rt, evS, evE, evEs, evO, evC, evI, R.bind_ok, R.bind_exc, R.q_ok, R.q_exc, R.of_some, R.nox_ok, Q.bind_nx, Q.bind_rt, Q.bind_bk, Q.bind_ct, Q.bind_exc, fin_rt, fin_nx, fin_exc, List.getElem?_cons_zero, List.getElem?_cons_succ, List.set_cons_zero, List.set_cons_succ, asgT, asgTs, lstOf, wipeS, srcOf, if_true, if_false, Bool.false_eq_true, Bool.true_eq_false, Bool.not_true, Bool.not_false, decide_true, decide_false, t_bl, t_int, t_non, t_tup, t_lst, c_lt, c_le, c_gt, c_ge, c_eqi, c_nei, c_eqs, c_nes, c_isN, c_isnN, c_isB, c_isnB, b_add, b_sub, ix_tup, ix_frz, ix_scr, at0, at1, isTys_nil, isTys_cons, ty_int_non, ty_int_bl, ty_int_int, ty_int_str, ty_int_tup, ty_int_lst, ty_int_dic, ty_bool_non, ty_bool_bl, ty_bool_int, ty_bool_str, ty_bool_tup, ty_bool_lst, ty_bool_dic, ty_str_non, ty_str_bl, ty_str_int, ty_str_str, ty_str_tup, ty_str_lst, ty_str_dic, ty_tuple_non, ty_tuple_bl, ty_tuple_int, ty_tuple_str, ty_tuple_tup, ty_tuple_lst, ty_tuple_dic, ty_list_non, ty_list_bl, ty_list_int, ty_list_str, ty_list_tup, ty_list_lst, ty_list_dic, ty_dict_non, ty_dict_bl, ty_dict_int, ty_dict_str, ty_dict_tup, ty_dict_lst, ty_dict_dic, ty_err_exn, ty_own_exn, bi_len_scr, bi_len_tup, bi_len_lst, bi_tuple_lst, bi_tuple_tup, bi_list_lst, bi_list_tup, bi_max, bi_min, mt_append, mt_part, mt_split, mt_splitN, mt_join, sl_tup, sl_lst, seqV, end_raw, Option.bind_some, Option.map_some, chk_nil, List.append_nil, okR_ok, okQ_ok, c_ins, c_nins, Int.cast_ofNat_Int, List.length_cons, List.length_nil, List.cons.injEq, and_self, and_true, true_and, and_false, false_and, Nat.zero_add, not_true_eq_false, not_false_eq_true, Bool.true_and, Bool.and_true, Bool.false_and, Bool.and_false, Bool.true_or, Bool.or_true, Bool.false_or, Bool.or_false, beq_self_eq_true, eq_self, Nat.reduceBEq, Int.reduceBEq, String.reduceBEq, String.reduceEq, Nat.reduceEqDiff, reduceCtorEq, Int.reduceNeg, Int.reduceLT, Int.reduceLE, Int.reduceEq, Int.reduceAdd, Int.reduceSub, Nat.reduceLT, Nat.reduceLeDiff, Nat.reduceAdd, Nat.reduceSub, Nat.reduceEqDiff])]
      simp (config := {implicitDefEqProofs := false}) only [evSs_nil, nx_nx, nx_rt, evS, evE, evEs, evO, evC, evI, R.bind_ok, R.bind_exc, R.q_ok, R.q_exc, R.of_some, R.nox_ok, Q.bind_nx, Q.bind_rt, Q.bind_bk, Q.bind_ct, Q.bind_exc, fin_rt, fin_nx, fin_exc, List.getElem?_cons_zero, List.getElem?_cons_succ, List.set_cons_zero, List.set_cons_succ, asgT, asgTs, lstOf, wipeS, srcOf, if_true, if_false, Bool.false_eq_true, Bool.true_eq_false, Bool.not_true, Bool.not_false, decide_true, decide_false, t_bl, t_int, t_non, t_tup, t_lst, c_lt, c_le, c_gt, c_ge, c_eqi, c_nei, c_eqs, c_nes, c_isN, c_isnN, c_isB, c_isnB, b_add, b_sub, ix_tup, ix_frz, ix_scr, at0, at1, isTys_nil, isTys_cons, ty_int_non, ty_int_bl, ty_int_int, ty_int_str, ty_int_tup, ty_int_lst, ty_int_dic, ty_bool_non, ty_bool_bl, ty_bool_int, ty_bool_str, ty_bool_tup, ty_bool_lst, ty_bool_dic, ty_str_non, ty_str_bl, ty_str_int, ty_str_str, ty_str_tup, ty_str_lst, ty_str_dic, ty_tuple_non, ty_tuple_bl, ty_tuple_int, ty_tuple_str, ty_tuple_tup, ty_tuple_lst, ty_tuple_dic, ty_list_non, ty_list_bl, ty_list_int, ty_list_str, ty_list_tup, ty_list_lst, ty_list_dic, ty_dict_non, ty_dict_bl, ty_dict_int, ty_dict_str, ty_dict_tup, ty_dict_lst, ty_dict_dic, ty_err_exn, ty_own_exn, bi_len_scr, bi_len_tup, bi_len_lst, bi_tuple_lst, bi_tuple_tup, bi_list_lst, bi_list_tup, bi_max, bi_min, mt_append, mt_part, mt_split, mt_splitN, mt_join, sl_tup, sl_lst, seqV, end_raw, Option.bind_some, Option.map_some, chk_nil, List.append_nil, okR_ok, okQ_ok, c_ins, c_nins, Int.cast_ofNat_Int, List.length_cons, List.length_nil, List.cons.injEq, and_self, and_true, true_and, and_false, false_and, Nat.zero_add, not_true_eq_false, not_false_eq_true, Bool.true_and, Bool.and_true, Bool.false_and, Bool.and_false, Bool.true_or, Bool.or_true, Bool.false_or, Bool.or_false, beq_self_eq_true, eq_self, bi_all, Nat.reduceBEq, Int.reduceBEq, String.reduceBEq, String.reduceEq, Nat.reduceEqDiff, reduceCtorEq, Int.reduceNeg, Int.reduceLT, Int.reduceLE, Int.reduceEq, Int.reduceAdd, Int.reduceSub, Nat.reduceLT, Nat.reduceLeDiff, Nat.reduceAdd, Nat.reduceSub, Nat.reduceEqDiff]
      have pk : ∀ z ∈ kwL.map D.str, pl 40 z = true := fun z hz => by
        obtain ⟨t, _, rfl⟩ := List.mem_map.mp hz
        rfl
      have ek : ((kwL.map D.str).any fun z => eqT z (.str (c :: s))) = kwL.any fun t => t == c :: s := by
        rw [List.any_map]
        rfl
      have hw : isWord (.str (c :: s)) = ((c :: s).all (fun c => decide (c ∈ lets ++ digs)) && (decide ((c :: s).length ≤ 8) || kwL.any fun t => t == c :: s)) := by
        simp only [isWord, isWordS, List.isEmpty_cons, Bool.not_false, Bool.true_and]
      rw [hw]
      cases (c :: s).all (fun c => decide (c ∈ lets ++ digs)) with
      | false => simp (config := {implicitDefEqProofs := false}) only [evSs_nil, nx_nx, nx_rt, evS, evE, evEs, evO, evC, evI, R.bind_ok, R.bind_exc, R.q_ok, R.q_exc, R.of_some, R.nox_ok, Q.bind_nx, Q.bind_rt, Q.bind_bk, Q.bind_ct, Q.bind_exc, fin_rt, fin_nx, fin_exc, List.getElem?_cons_zero, List.getElem?_cons_succ, List.set_cons_zero, List.set_cons_succ, asgT, asgTs, lstOf, wipeS, srcOf, if_true, if_false, Bool.false_eq_true, Bool.true_eq_false, Bool.not_true, Bool.not_false, decide_true, decide_false, t_bl, t_int, t_non, t_tup, t_lst, c_lt, c_le, c_gt, c_ge, c_eqi, c_nei, c_eqs, c_nes, c_isN, c_isnN, c_isB, c_isnB, b_add, b_sub, ix_tup, ix_frz, ix_scr, at0, at1, isTys_nil, isTys_cons, ty_int_non, ty_int_bl, ty_int_int, ty_int_str, ty_int_tup, ty_int_lst, ty_int_dic, ty_bool_non, ty_bool_bl, ty_bool_int, ty_bool_str, ty_bool_tup, ty_bool_lst, ty_bool_dic, ty_str_non, ty_str_bl, ty_str_int, ty_str_str, ty_str_tup, ty_str_lst, ty_str_dic, ty_tuple_non, ty_tuple_bl, ty_tuple_int, ty_tuple_str, ty_tuple_tup, ty_tuple_lst, ty_tuple_dic, ty_list_non, ty_list_bl, ty_list_int, ty_list_str, ty_list_tup, ty_list_lst, ty_list_dic, ty_dict_non, ty_dict_bl, ty_dict_int, ty_dict_str, ty_dict_tup, ty_dict_lst, ty_dict_dic, ty_err_exn, ty_own_exn, bi_len_scr, bi_len_tup, bi_len_lst, bi_tuple_lst, bi_tuple_tup, bi_list_lst, bi_list_tup, bi_max, bi_min, mt_append, mt_part, mt_split, mt_splitN, mt_join, sl_tup, sl_lst, seqV, end_raw, Option.bind_some, Option.map_some, chk_nil, List.append_nil, okR_ok, okQ_ok, c_ins, c_nins, Int.cast_ofNat_Int, List.length_cons, List.length_nil, List.cons.injEq, and_self, and_true, true_and, and_false, false_and, Nat.zero_add, not_true_eq_false, not_false_eq_true, Bool.true_and, Bool.and_true, Bool.false_and, Bool.and_false, Bool.true_or, Bool.or_true, Bool.false_or, Bool.or_false, beq_self_eq_true, eq_self, Nat.reduceBEq, Int.reduceBEq, String.reduceBEq, String.reduceEq, Nat.reduceEqDiff, reduceCtorEq, Int.reduceNeg, Int.reduceLT, Int.reduceLE, Int.reduceEq, Int.reduceAdd, Int.reduceSub, Nat.reduceLT, Nat.reduceLeDiff, Nat.reduceAdd, Nat.reduceSub, Nat.reduceEqDiff]
      | true =>
        simp (config := {implicitDefEqProofs := false}) only [evSs_nil, nx_nx, nx_rt, evS, evE, evEs, evO, evC, evI, R.bind_ok, R.bind_exc, R.q_ok, R.q_exc, R.of_some, R.nox_ok, Q.bind_nx, Q.bind_rt, Q.bind_bk, Q.bind_ct, Q.bind_exc, fin_rt, fin_nx, fin_exc, List.getElem?_cons_zero, List.getElem?_cons_succ, List.set_cons_zero, List.set_cons_succ, asgT, asgTs, lstOf, wipeS, srcOf, if_true, if_false, Bool.false_eq_true, Bool.true_eq_false, Bool.not_true, Bool.not_false, decide_true, decide_false, t_bl, t_int, t_non, t_tup, t_lst, c_lt, c_le, c_gt, c_ge, c_eqi, c_nei, c_eqs, c_nes, c_isN, c_isnN, c_isB, c_isnB, b_add, b_sub, ix_tup, ix_frz, ix_scr, at0, at1, isTys_nil, isTys_cons, ty_int_non, ty_int_bl, ty_int_int, ty_int_str, ty_int_tup, ty_int_lst, ty_int_dic, ty_bool_non, ty_bool_bl, ty_bool_int, ty_bool_str, ty_bool_tup, ty_bool_lst, ty_bool_dic, ty_str_non, ty_str_bl, ty_str_int, ty_str_str, ty_str_tup, ty_str_lst, ty_str_dic, ty_tuple_non, ty_tuple_bl, ty_tuple_int, ty_tuple_str, ty_tuple_tup, ty_tuple_lst, ty_tuple_dic, ty_list_non, ty_list_bl, ty_list_int, ty_list_str, ty_list_tup, ty_list_lst, ty_list_dic, ty_dict_non, ty_dict_bl, ty_dict_int, ty_dict_str, ty_dict_tup, ty_dict_lst, ty_dict_dic, ty_err_exn, ty_own_exn, bi_len_scr, bi_len_tup, bi_len_lst, bi_tuple_lst, bi_tuple_tup, bi_list_lst, bi_list_tup, bi_max, bi_min, mt_append, mt_part, mt_split, mt_splitN, mt_join, sl_tup, sl_lst, seqV, end_raw, Option.bind_some, Option.map_some, chk_nil, List.append_nil, okR_ok, okQ_ok, c_ins, c_nins, Int.cast_ofNat_Int, List.length_cons, List.length_nil, List.cons.injEq, and_self, and_true, true_and, and_false, false_and, Nat.zero_add, not_true_eq_false, not_false_eq_true, Bool.true_and, Bool.and_true, Bool.false_and, Bool.and_false, Bool.true_or, Bool.or_true, Bool.false_or, Bool.or_false, beq_self_eq_true, eq_self, bi_len_str (s := c :: s) (by simpa using hl2), g.hml, g.hkw, c_in_tup (show pl 40 (.str (c :: s)) = true from rfl) pk, ek, Nat.reduceBEq, Int.reduceBEq, String.reduceBEq, String.reduceEq, Nat.reduceEqDiff, reduceCtorEq, Int.reduceNeg, Int.reduceLT, Int.reduceLE, Int.reduceEq, Int.reduceAdd, Int.reduceSub, Nat.reduceLT, Nat.reduceLeDiff, Nat.reduceAdd, Nat.reduceSub, Nat.reduceEqDiff]
        by_cases h8 : s.length + 1 ≤ 8
        · have h9 : ((s.length + 1 : Nat) : Int) ≤ 8 := by omega
          simp (config := {implicitDefEqProofs := false}) only [evSs_nil, nx_nx, nx_rt, evS, evE, evEs, evO, evC, evI, R.bind_ok, R.bind_exc, R.q_ok, R.q_exc, R.of_some, R.nox_ok, Q.bind_nx, Q.bind_rt, Q.bind_bk, Q.bind_ct, Q.bind_exc, fin_rt, fin_nx, fin_exc, List.getElem?_cons_zero, List.getElem?_cons_succ, List.set_cons_zero, List.set_cons_succ, asgT, asgTs, lstOf, wipeS, srcOf, if_true, if_false, Bool.false_eq_true, Bool.true_eq_false, Bool.not_true, Bool.not_false, decide_true, decide_false, t_bl, t_int, t_non, t_tup, t_lst, c_lt, c_le, c_gt, c_ge, c_eqi, c_nei, c_eqs, c_nes, c_isN, c_isnN, c_isB, c_isnB, b_add, b_sub, ix_tup, ix_frz, ix_scr, at0, at1, isTys_nil, isTys_cons, ty_int_non, ty_int_bl, ty_int_int, ty_int_str, ty_int_tup, ty_int_lst, ty_int_dic, ty_bool_non, ty_bool_bl, ty_bool_int, ty_bool_str, ty_bool_tup, ty_bool_lst, ty_bool_dic, ty_str_non, ty_str_bl, ty_str_int, ty_str_str, ty_str_tup, ty_str_lst, ty_str_dic, ty_tuple_non, ty_tuple_bl, ty_tuple_int, ty_tuple_str, ty_tuple_tup, ty_tuple_lst, ty_tuple_dic, ty_list_non, ty_list_bl, ty_list_int, ty_list_str, ty_list_tup, ty_list_lst, ty_list_dic, ty_dict_non, ty_dict_bl, ty_dict_int, ty_dict_str, ty_dict_tup, ty_dict_lst, ty_dict_dic, ty_err_exn, ty_own_exn, bi_len_scr, bi_len_tup, bi_len_lst, bi_tuple_lst, bi_tuple_tup, bi_list_lst, bi_list_tup, bi_max, bi_min, mt_append, mt_part, mt_split, mt_splitN, mt_join, sl_tup, sl_lst, seqV, end_raw, Option.bind_some, Option.map_some, chk_nil, List.append_nil, okR_ok, okQ_ok, c_ins, c_nins, Int.cast_ofNat_Int, List.length_cons, List.length_nil, List.cons.injEq, and_self, and_true, true_and, and_false, false_and, Nat.zero_add, not_true_eq_false, not_false_eq_true, Bool.true_and, Bool.and_true, Bool.false_and, Bool.and_false, Bool.true_or, Bool.or_true, Bool.false_or, Bool.or_false, beq_self_eq_true, eq_self, h8, h9, show s.length ≤ 7 by omega, Nat.reduceBEq, Int.reduceBEq, String.reduceBEq, String.reduceEq, Nat.reduceEqDiff, reduceCtorEq, Int.reduceNeg, Int.reduceLT, Int.reduceLE, Int.reduceEq, Int.reduceAdd, Int.reduceSub, Nat.reduceLT, Nat.reduceLeDiff, Nat.reduceAdd, Nat.reduceSub, Nat.reduceEqDiff]
        · have h9 : ¬ ((s.length + 1 : Nat) : Int) ≤ 8 := by omega
          simp (config := {implicitDefEqProofs := false}) only [evSs_nil, nx_nx, nx_rt, evS, evE, evEs, evO, evC, evI, R.bind_ok, R.bind_exc, R.q_ok, R.q_exc, R.of_some, R.nox_ok, Q.bind_nx, Q.bind_rt, Q.bind_bk, Q.bind_ct, Q.bind_exc, fin_rt, fin_nx, fin_exc, List.getElem?_cons_zero, List.getElem?_cons_succ, List.set_cons_zero, List.set_cons_succ, asgT, asgTs, lstOf, wipeS, srcOf, if_true, if_false, Bool.false_eq_true, Bool.true_eq_false, Bool.not_true, Bool.not_false, decide_true, decide_false, t_bl, t_int, t_non, t_tup, t_lst, c_lt, c_le, c_gt, c_ge, c_eqi, c_nei, c_eqs, c_nes, c_isN, c_isnN, c_isB, c_isnB, b_add, b_sub, ix_tup, ix_frz, ix_scr, at0, at1, isTys_nil, isTys_cons, ty_int_non, ty_int_bl, ty_int_int, ty_int_str, ty_int_tup, ty_int_lst, ty_int_dic, ty_bool_non, ty_bool_bl, ty_bool_int, ty_bool_str, ty_bool_tup, ty_bool_lst, ty_bool_dic, ty_str_non, ty_str_bl, ty_str_int, ty_str_str, ty_str_tup, ty_str_lst, ty_str_dic, ty_tuple_non, ty_tuple_bl, ty_tuple_int, ty_tuple_str, ty_tuple_tup, ty_tuple_lst, ty_tuple_dic, ty_list_non, ty_list_bl, ty_list_int, ty_list_str, ty_list_tup, ty_list_lst, ty_list_dic, ty_dict_non, ty_dict_bl, ty_dict_int, ty_dict_str, ty_dict_tup, ty_dict_lst, ty_dict_dic, ty_err_exn, ty_own_exn, bi_len_scr, bi_len_tup, bi_len_lst, bi_tuple_lst, bi_tuple_tup, bi_list_lst, bi_list_tup, bi_max, bi_min, mt_append, mt_part, mt_split, mt_splitN, mt_join, sl_tup, sl_lst, seqV, end_raw, Option.bind_some, Option.map_some, chk_nil, List.append_nil, okR_ok, okQ_ok, c_ins, c_nins, Int.cast_ofNat_Int, List.length_cons, List.length_nil, List.cons.injEq, and_self, and_true, true_and, and_false, false_and, Nat.zero_add, not_true_eq_false, not_false_eq_true, Bool.true_and, Bool.and_true, Bool.false_and, Bool.and_false, Bool.true_or, Bool.or_true, Bool.false_or, Bool.or_false, beq_self_eq_true, eq_self, h8, h9, show ¬ s.length ≤ 7 by omega, Nat.reduceBEq, Int.reduceBEq, String.reduceBEq, String.reduceEq, Nat.reduceEqDiff, reduceCtorEq, Int.reduceNeg, Int.reduceLT, Int.reduceLE, Int.reduceEq, Int.reduceAdd, Int.reduceSub, Nat.reduceLT, Nat.reduceLeDiff, Nat.reduceAdd, Nat.reduceSub, Nat.reduceEqDiff]
  | _ => first | (simp [tm] at hd; done) | (simp (config := {implicitDefEqProofs := false}) only [evSs_nil, nx_nx, nx_rt, evS, evE, evEs, evO, evC, evI, R.bind_ok, R.bind_exc, R.q_ok, R.q_exc, R.of_some, R.nox_ok, Q.bind_nx, Q.bind_rt, Q.bind_bk, Q.bind_ct, Q.bind_exc, fin_rt, fin_nx, fin_exc, List.getElem?_cons_zero, List.getElem?_cons_succ, List.set_cons_zero, List.set_cons_succ, asgT, asgTs, lstOf, wipeS, srcOf, if_true, if_false, Bool.false_eq_true, Bool.true_eq_false, Bool.not_true, Bool.not_false, decide_true, decide_false, t_bl, t_int, t_non, t_tup, t_lst, c_lt, c_le, c_gt, c_ge, c_eqi, c_nei, c_eqs, c_nes, c_isN, c_isnN, c_isB, c_isnB, b_add, b_sub, ix_tup, ix_frz, ix_scr, at0, at1, isTys_nil, isTys_cons, ty_int_non, ty_int_bl, ty_int_int, ty_int_str, ty_int_tup, ty_int_lst, ty_int_dic, ty_bool_non, ty_bool_bl, ty_bool_int, ty_bool_str, ty_bool_tup, ty_bool_lst, ty_bool_dic, ty_str_non, ty_str_bl, ty_str_int, ty_str_str, ty_str_tup, ty_str_lst, ty_str_dic, ty_tuple_non, ty_tuple_bl, ty_tuple_int, ty_tuple_str, ty_tuple_tup, ty_tuple_lst, ty_tuple_dic, ty_list_non, ty_list_bl, ty_list_int, ty_list_str, ty_list_tup, ty_list_lst, ty_list_dic, ty_dict_non, ty_dict_bl, ty_dict_int, ty_dict_str, ty_dict_tup, ty_dict_lst, ty_dict_dic, ty_err_exn, ty_own_exn, bi_len_scr, bi_len_tup, bi_len_lst, bi_tuple_lst, bi_tuple_tup, bi_list_lst, bi_list_tup, bi_max, bi_min, mt_append, mt_part, mt_split, mt_splitN, mt_join, sl_tup, sl_lst, seqV, end_raw, Option.bind_some, Option.map_some, chk_nil, List.append_nil, okR_ok, okQ_ok, c_ins, c_nins, Int.cast_ofNat_Int, List.length_cons, List.length_nil, List.cons.injEq, and_self, and_true, true_and, and_false, false_and, Nat.zero_add, not_true_eq_false, not_false_eq_true, Bool.true_and, Bool.and_true, Bool.false_and, Bool.and_false, Bool.true_or, Bool.or_true, Bool.false_or, Bool.or_false, beq_self_eq_true, eq_self, evSs, Fword, isWord, List.map_cons, List.map_nil, List.replicate, List.cons_append, List.nil_append, Nat.reduceBEq, Int.reduceBEq, String.reduceBEq, String.reduceEq, Nat.reduceEqDiff, reduceCtorEq, Int.reduceNeg, Int.reduceLT, Int.reduceLE, Int.reduceEq, Int.reduceAdd, Int.reduceSub, Nat.reduceLT, Nat.reduceLeDiff, Nat.reduceAdd, Nat.reduceSub, Nat.reduceEqDiff])
/-! ### is_word_list, is_line, split_line -/
def Fwl (fw gm : Nat) : Fn := ⟨1, 2, [.ret (some (.and (.isi (.var 0) [.list]) (.and (.chn .LtE .LtE (.cst (.int 1)) (.bi .len [.var 0] false) (.glb gm)) (.bi .all [.lc [1] (.nm 1) (.ex (.var 0)) none (.call fw [.var 1] .pure) false] false))))]⟩
def Fline (fl : Nat) : Fn := ⟨1, 1, [.ret (some (.and (.isi (.var 0) [.str]) (.call fl [.mt .split (.var 0) [.cst (.str [32])]] .pure)))]⟩
def Fsplit (fl c : Nat) (mm : MT) : Fn := ⟨1, 1, [.ite (.not (.call fl [.var 0] .pure)) [.rais c []] [], .ret (some (.mt mm (.var 0) [.cst (.str [32])]))]⟩
def isWL (ws : List (List Nat)) : Bool := decide (1 ≤ ws.length) && decide (ws.length ≤ 24) && ws.all isWordS
def isLineS (s : List Nat) : Bool := isWL (splitL 32 s)
def isLine : D → Bool
  | .str s => isLineS s
  | _ => false
theorem split_len {c : Nat} : ∀ {s : List Nat}, 1 ≤ (splitL c s).length ∧ (splitL c s).length ≤ s.length + 1 ∧ ∀ w ∈ splitL c s, w.length ≤ s.length
  | [] => by simp [splitL]
  | x :: s => by
    obtain ⟨h1, h2, h3⟩ := split_len (c := c) (s := s)
    by_cases e : x = c
    · simp only [splitL, if_pos e]
      refine ⟨by simp, by simp; exact h2, fun w hw => ?_⟩
      rcases List.mem_cons.mp hw with rfl | hw
      · simp
      · have := h3 w hw
        simp; omega
    · simp only [splitL, if_neg e]
      cases q : splitL c s with
      | nil => rw [q] at h1; simp at h1
      | cons w ws =>
        rw [q] at h2 h3
        refine ⟨by simp, by simp at h2 ⊢; omega, fun v hv => ?_⟩
        rcases List.mem_cons.mp hv with rfl | hv
        · have := h3 w (List.mem_cons_self ..)
          simp; omega
        · have := h3 v (List.mem_cons_of_mem _ hv)
          simp; omega
structure GL (G : Gl) (Fs : List Fn) (kw le di ml gm fw fwl : Nat) : Prop extends GW G kw le di ml where
  hgm : G.gls[gm]? = some (.int 24)
  hfw : Fs[fw]? = some (Fword kw le di ml)
  hfwl : Fs[fwl]? = some (Fwl fw gm)
section
variable {kw le di ml gm fw fwl fln : Nat}
theorem wl_ok (hm : 2 ≤ m) (g : GL G Fs kw le di ml gm fw fwl) {ws : List (List Nat)} (hl : ws.length < lim) (hs : ∀ w ∈ ws, w.length < lim) (h : Hs) : callN G Fs m fwl [.lst (ws.map .str)] h = .ok (.bl (isWL ws)) h := by
  obtain ⟨n, rfl⟩ : ∃ n, m = n + 1 := ⟨m - 1, by omega⟩
  rw [callN_eq g.hfwl rfl]
  have e1 : (1 : Int) ≤ ((ws.map D.str).length : Nat) ↔ 1 ≤ ws.length := by rw [List.length_map]; omega
  have e2 : ((ws.map D.str).length : Int) ≤ 24 ↔ ws.length ≤ 24 := by rw [List.length_map]; omega
  simp (config := {implicitDefEqProofs := false}) only [evSs_nil, nx_nx, nx_rt, evS, evE, evEs, evO, evC, evI, R.bind_ok, R.bind_exc, R.q_ok, R.q_exc, R.of_some, R.nox_ok, Q.bind_nx, Q.bind_rt, Q.bind_bk, Q.bind_ct, Q.bind_exc, fin_rt, fin_nx, fin_exc, List.getElem?_cons_zero, List.getElem?_cons_succ, List.set_cons_zero, List.set_cons_succ, asgT, asgTs, lstOf, wipeS, srcOf, if_true, if_false, Bool.false_eq_true, Bool.true_eq_false, Bool.not_true, Bool.not_false, decide_true, decide_false, t_bl, t_int, t_non, t_tup, t_lst, c_lt, c_le, c_gt, c_ge, c_eqi, c_nei, c_eqs, c_nes, c_isN, c_isnN, c_isB, c_isnB, b_add, b_sub, ix_tup, ix_frz, ix_scr, at0, at1, isTys_nil, isTys_cons, ty_int_non, ty_int_bl, ty_int_int, ty_int_str, ty_int_tup, ty_int_lst, ty_int_dic, ty_bool_non, ty_bool_bl, ty_bool_int, ty_bool_str, ty_bool_tup, ty_bool_lst, ty_bool_dic, ty_str_non, ty_str_bl, ty_str_int, ty_str_str, ty_str_tup, ty_str_lst, ty_str_dic, ty_tuple_non, ty_tuple_bl, ty_tuple_int, ty_tuple_str, ty_tuple_tup, ty_tuple_lst, ty_tuple_dic, ty_list_non, ty_list_bl, ty_list_int, ty_list_str, ty_list_tup, ty_list_lst, ty_list_dic, ty_dict_non, ty_dict_bl, ty_dict_int, ty_dict_str, ty_dict_tup, ty_dict_lst, ty_dict_dic, ty_err_exn, ty_own_exn, bi_len_scr, bi_len_tup, bi_len_lst, bi_tuple_lst, bi_tuple_tup, bi_list_lst, bi_list_tup, bi_max, bi_min, mt_append, mt_part, mt_split, mt_splitN, mt_join, sl_tup, sl_lst, seqV, end_raw, Option.bind_some, Option.map_some, chk_nil, List.append_nil, okR_ok, okQ_ok, c_ins, c_nins, Int.cast_ofNat_Int, List.length_cons, List.length_nil, List.cons.injEq, and_self, and_true, true_and, and_false, false_and, Nat.zero_add, not_true_eq_false, not_false_eq_true, Bool.true_and, Bool.and_true, Bool.false_and, Bool.and_false, Bool.true_or, Bool.or_true, Bool.false_or, Bool.or_false, beq_self_eq_true, eq_self, evSs, Fwl, List.map_cons, List.map_nil, List.replicate, List.cons_append, List.nil_append, g.hgm, e1, e2, isWL, Nat.reduceBEq, Int.reduceBEq, String.reduceBEq, String.reduceEq, Nat.reduceEqDiff, reduceCtorEq, Int.reduceNeg, Int.reduceLT, Int.reduceLE, Int.reduceEq, Int.reduceAdd, Int.reduceSub, Nat.reduceLT, Nat.reduceLeDiff, Nat.reduceAdd, Nat.reduceSub, Nat.reduceEqDiff]
  by_cases h1 : 1 ≤ ws.length
  · simp (config := {implicitDefEqProofs := false}) only [evSs_nil, nx_nx, nx_rt, evS, evE, evEs, evO, evC, evI, R.bind_ok, R.bind_exc, R.q_ok, R.q_exc, R.of_some, R.nox_ok, Q.bind_nx, Q.bind_rt, Q.bind_bk, Q.bind_ct, Q.bind_exc, fin_rt, fin_nx, fin_exc, List.getElem?_cons_zero, List.getElem?_cons_succ, List.set_cons_zero, List.set_cons_succ, asgT, asgTs, lstOf, wipeS, srcOf, if_true, if_false, Bool.false_eq_true, Bool.true_eq_false, Bool.not_true, Bool.not_false, decide_true, decide_false, t_bl, t_int, t_non, t_tup, t_lst, c_lt, c_le, c_gt, c_ge, c_eqi, c_nei, c_eqs, c_nes, c_isN, c_isnN, c_isB, c_isnB, b_add, b_sub, ix_tup, ix_frz, ix_scr, at0, at1, isTys_nil, isTys_cons, ty_int_non, ty_int_bl, ty_int_int, ty_int_str, ty_int_tup, ty_int_lst, ty_int_dic, ty_bool_non, ty_bool_bl, ty_bool_int, ty_bool_str, ty_bool_tup, ty_bool_lst, ty_bool_dic, ty_str_non, ty_str_bl, ty_str_int, ty_str_str, ty_str_tup, ty_str_lst, ty_str_dic, ty_tuple_non, ty_tuple_bl, ty_tuple_int, ty_tuple_str, ty_tuple_tup, ty_tuple_lst, ty_tuple_dic, ty_list_non, ty_list_bl, ty_list_int, ty_list_str, ty_list_tup, ty_list_lst, ty_list_dic, ty_dict_non, ty_dict_bl, ty_dict_int, ty_dict_str, ty_dict_tup, ty_dict_lst, ty_dict_dic, ty_err_exn, ty_own_exn, bi_len_scr, bi_len_tup, bi_len_lst, bi_tuple_lst, bi_tuple_tup, bi_list_lst, bi_list_tup, bi_max, bi_min, mt_append, mt_part, mt_split, mt_splitN, mt_join, sl_tup, sl_lst, seqV, end_raw, Option.bind_some, Option.map_some, chk_nil, List.append_nil, okR_ok, okQ_ok, c_ins, c_nins, Int.cast_ofNat_Int, List.length_cons, List.length_nil, List.cons.injEq, and_self, and_true, true_and, and_false, false_and, Nat.zero_add, not_true_eq_false, not_false_eq_true, Bool.true_and, Bool.and_true, Bool.false_and, Bool.and_false, Bool.true_or, Bool.or_true, Bool.false_or, Bool.or_false, beq_self_eq_true, eq_self, h1, Nat.reduceBEq, Int.reduceBEq, String.reduceBEq, String.reduceEq, Nat.reduceEqDiff, reduceCtorEq, Int.reduceNeg, Int.reduceLT, Int.reduceLE, Int.reduceEq, Int.reduceAdd, Int.reduceSub, Nat.reduceLT, Nat.reduceLeDiff, Nat.reduceAdd, Nat.reduceSub, Nat.reduceEqDiff]
    by_cases h2 : ws.length ≤ 24
    · simp (config := {implicitDefEqProofs := false}) only [evSs_nil, nx_nx, nx_rt, evS, evE, evEs, evO, evC, evI, R.bind_ok, R.bind_exc, R.q_ok, R.q_exc, R.of_some, R.nox_ok, Q.bind_nx, Q.bind_rt, Q.bind_bk, Q.bind_ct, Q.bind_exc, fin_rt, fin_nx, fin_exc, List.getElem?_cons_zero, List.getElem?_cons_succ, List.set_cons_zero, List.set_cons_succ, asgT, asgTs, lstOf, wipeS, srcOf, if_true, if_false, Bool.false_eq_true, Bool.true_eq_false, Bool.not_true, Bool.not_false, decide_true, decide_false, t_bl, t_int, t_non, t_tup, t_lst, c_lt, c_le, c_gt, c_ge, c_eqi, c_nei, c_eqs, c_nes, c_isN, c_isnN, c_isB, c_isnB, b_add, b_sub, ix_tup, ix_frz, ix_scr, at0, at1, isTys_nil, isTys_cons, ty_int_non, ty_int_bl, ty_int_int, ty_int_str, ty_int_tup, ty_int_lst, ty_int_dic, ty_bool_non, ty_bool_bl, ty_bool_int, ty_bool_str, ty_bool_tup, ty_bool_lst, ty_bool_dic, ty_str_non, ty_str_bl, ty_str_int, ty_str_str, ty_str_tup, ty_str_lst, ty_str_dic, ty_tuple_non, ty_tuple_bl, ty_tuple_int, ty_tuple_str, ty_tuple_tup, ty_tuple_lst, ty_tuple_dic, ty_list_non, ty_list_bl, ty_list_int, ty_list_str, ty_list_tup, ty_list_lst, ty_list_dic, ty_dict_non, ty_dict_bl, ty_dict_int, ty_dict_str, ty_dict_tup, ty_dict_lst, ty_dict_dic, ty_err_exn, ty_own_exn, bi_len_scr, bi_len_tup, bi_len_lst, bi_tuple_lst, bi_tuple_tup, bi_list_lst, bi_list_tup, bi_max, bi_min, mt_append, mt_part, mt_split, mt_splitN, mt_join, sl_tup, sl_lst, seqV, end_raw, Option.bind_some, Option.map_some, chk_nil, List.append_nil, okR_ok, okQ_ok, c_ins, c_nins, Int.cast_ofNat_Int, List.length_cons, List.length_nil, List.cons.injEq, and_self, and_true, true_and, and_false, false_and, Nat.zero_add, not_true_eq_false, not_false_eq_true, Bool.true_and, Bool.and_true, Bool.false_and, Bool.and_false, Bool.true_or, Bool.or_true, Bool.false_or, Bool.or_false, beq_self_eq_true, eq_self, h2, List.length_map, hl, Nat.reduceBEq, Int.reduceBEq, String.reduceBEq, String.reduceEq, Nat.reduceEqDiff, reduceCtorEq, Int.reduceNeg, Int.reduceLT, Int.reduceLE, Int.reduceEq, Int.reduceAdd, Int.reduceSub, Nat.reduceLT, Nat.reduceLeDiff, Nat.reduceAdd, Nat.reduceSub, Nat.reduceEqDiff]
      rw [mapR_mapL (fun w => D.str w) (fun w => D.bl (isWordS w)) rfl]
      · simp (config := {implicitDefEqProofs := false}) only [evSs_nil, nx_nx, nx_rt, evS, evE, evEs, evO, evC, evI, R.bind_ok, R.bind_exc, R.q_ok, R.q_exc, R.of_some, R.nox_ok, Q.bind_nx, Q.bind_rt, Q.bind_bk, Q.bind_ct, Q.bind_exc, fin_rt, fin_nx, fin_exc, List.getElem?_cons_zero, List.getElem?_cons_succ, List.set_cons_zero, List.set_cons_succ, asgT, asgTs, lstOf, wipeS, srcOf, if_true, if_false, Bool.false_eq_true, Bool.true_eq_false, Bool.not_true, Bool.not_false, decide_true, decide_false, t_bl, t_int, t_non, t_tup, t_lst, c_lt, c_le, c_gt, c_ge, c_eqi, c_nei, c_eqs, c_nes, c_isN, c_isnN, c_isB, c_isnB, b_add, b_sub, ix_tup, ix_frz, ix_scr, at0, at1, isTys_nil, isTys_cons, ty_int_non, ty_int_bl, ty_int_int, ty_int_str, ty_int_tup, ty_int_lst, ty_int_dic, ty_bool_non, ty_bool_bl, ty_bool_int, ty_bool_str, ty_bool_tup, ty_bool_lst, ty_bool_dic, ty_str_non, ty_str_bl, ty_str_int, ty_str_str, ty_str_tup, ty_str_lst, ty_str_dic, ty_tuple_non, ty_tuple_bl, ty_tuple_int, ty_tuple_str, ty_tuple_tup, ty_tuple_lst, ty_tuple_dic, ty_list_non, ty_list_bl, ty_list_int, ty_list_str, ty_list_tup, ty_list_lst, ty_list_dic, ty_dict_non, ty_dict_bl, ty_dict_int, ty_dict_str, ty_dict_tup, ty_dict_lst, ty_dict_dic, ty_err_exn, ty_own_exn, bi_len_scr, bi_len_tup, bi_len_lst, bi_tuple_lst, bi_tuple_tup, bi_list_lst, bi_list_tup, bi_max, bi_min, mt_append, mt_part, mt_split, mt_splitN, mt_join, sl_tup, sl_lst, seqV, end_raw, Option.bind_some, Option.map_some, chk_nil, List.append_nil, okR_ok, okQ_ok, c_ins, c_nins, Int.cast_ofNat_Int, List.length_cons, List.length_nil, List.cons.injEq, and_self, and_true, true_and, and_false, false_and, Nat.zero_add, not_true_eq_false, not_false_eq_true, Bool.true_and, Bool.and_true, Bool.false_and, Bool.and_false, Bool.true_or, Bool.or_true, Bool.false_or, Bool.or_false, beq_self_eq_true, eq_self, bi_all, Nat.reduceBEq, Int.reduceBEq, String.reduceBEq, String.reduceEq, Nat.reduceEqDiff, reduceCtorEq, Int.reduceNeg, Int.reduceLT, Int.reduceLE, Int.reduceEq, Int.reduceAdd, Int.reduceSub, Nat.reduceLT, Nat.reduceLeDiff, Nat.reduceAdd, Nat.reduceSub, Nat.reduceEqDiff]
      · intro w hw
        simp (config := {implicitDefEqProofs := false}) only [evSs_nil, nx_nx, nx_rt, evS, evE, evEs, evO, evC, evI, R.bind_ok, R.bind_exc, R.q_ok, R.q_exc, R.of_some, R.nox_ok, Q.bind_nx, Q.bind_rt, Q.bind_bk, Q.bind_ct, Q.bind_exc, fin_rt, fin_nx, fin_exc, List.getElem?_cons_zero, List.getElem?_cons_succ, List.set_cons_zero, List.set_cons_succ, asgT, asgTs, lstOf, wipeS, srcOf, if_true, if_false, Bool.false_eq_true, Bool.true_eq_false, Bool.not_true, Bool.not_false, decide_true, decide_false, t_bl, t_int, t_non, t_tup, t_lst, c_lt, c_le, c_gt, c_ge, c_eqi, c_nei, c_eqs, c_nes, c_isN, c_isnN, c_isB, c_isnB, b_add, b_sub, ix_tup, ix_frz, ix_scr, at0, at1, isTys_nil, isTys_cons, ty_int_non, ty_int_bl, ty_int_int, ty_int_str, ty_int_tup, ty_int_lst, ty_int_dic, ty_bool_non, ty_bool_bl, ty_bool_int, ty_bool_str, ty_bool_tup, ty_bool_lst, ty_bool_dic, ty_str_non, ty_str_bl, ty_str_int, ty_str_str, ty_str_tup, ty_str_lst, ty_str_dic, ty_tuple_non, ty_tuple_bl, ty_tuple_int, ty_tuple_str, ty_tuple_tup, ty_tuple_lst, ty_tuple_dic, ty_list_non, ty_list_bl, ty_list_int, ty_list_str, ty_list_tup, ty_list_lst, ty_list_dic, ty_dict_non, ty_dict_bl, ty_dict_int, ty_dict_str, ty_dict_tup, ty_dict_lst, ty_dict_dic, ty_err_exn, ty_own_exn, bi_len_scr, bi_len_tup, bi_len_lst, bi_tuple_lst, bi_tuple_tup, bi_list_lst, bi_list_tup, bi_max, bi_min, mt_append, mt_part, mt_split, mt_splitN, mt_join, sl_tup, sl_lst, seqV, end_raw, Option.bind_some, Option.map_some, chk_nil, List.append_nil, okR_ok, okQ_ok, c_ins, c_nins, Int.cast_ofNat_Int, List.length_cons, List.length_nil, List.cons.injEq, and_self, and_true, true_and, and_false, false_and, Nat.zero_add, not_true_eq_false, not_false_eq_true, Bool.true_and, Bool.and_true, Bool.false_and, Bool.and_false, Bool.true_or, Bool.or_true, Bool.false_or, Bool.or_false, beq_self_eq_true, eq_self, word_ok (show 1 ≤ n by omega) g.hfw g.toGW (d := .str w) rfl (decide_eq_true (hs w hw)), end_pure0 (show pl 40 (.bl (isWordS w)) = true from rfl), isWord, Nat.reduceBEq, Int.reduceBEq, String.reduceBEq, String.reduceEq, Nat.reduceEqDiff, reduceCtorEq, Int.reduceNeg, Int.reduceLT, Int.reduceLE, Int.reduceEq, Int.reduceAdd, Int.reduceSub, Nat.reduceLT, Nat.reduceLeDiff, Nat.reduceAdd, Nat.reduceSub, Nat.reduceEqDiff]
    · simp (config := {implicitDefEqProofs := false}) only [evSs_nil, nx_nx, nx_rt, evS, evE, evEs, evO, evC, evI, R.bind_ok, R.bind_exc, R.q_ok, R.q_exc, R.of_some, R.nox_ok, Q.bind_nx, Q.bind_rt, Q.bind_bk, Q.bind_ct, Q.bind_exc, fin_rt, fin_nx, fin_exc, List.getElem?_cons_zero, List.getElem?_cons_succ, List.set_cons_zero, List.set_cons_succ, asgT, asgTs, lstOf, wipeS, srcOf, if_true, if_false, Bool.false_eq_true, Bool.true_eq_false, Bool.not_true, Bool.not_false, decide_true, decide_false, t_bl, t_int, t_non, t_tup, t_lst, c_lt, c_le, c_gt, c_ge, c_eqi, c_nei, c_eqs, c_nes, c_isN, c_isnN, c_isB, c_isnB, b_add, b_sub, ix_tup, ix_frz, ix_scr, at0, at1, isTys_nil, isTys_cons, ty_int_non, ty_int_bl, ty_int_int, ty_int_str, ty_int_tup, ty_int_lst, ty_int_dic, ty_bool_non, ty_bool_bl, ty_bool_int, ty_bool_str, ty_bool_tup, ty_bool_lst, ty_bool_dic, ty_str_non, ty_str_bl, ty_str_int, ty_str_str, ty_str_tup, ty_str_lst, ty_str_dic, ty_tuple_non, ty_tuple_bl, ty_tuple_int, ty_tuple_str, ty_tuple_tup, ty_tuple_lst, ty_tuple_dic, ty_list_non, ty_list_bl, ty_list_int, ty_list_str, ty_list_tup, ty_list_lst, ty_list_dic, ty_dict_non, ty_dict_bl, ty_dict_int, ty_dict_str, ty_dict_tup, ty_dict_lst, ty_dict_dic, ty_err_exn, ty_own_exn, bi_len_scr, bi_len_tup, bi_len_lst, bi_tuple_lst, bi_tuple_tup, bi_list_lst, bi_list_tup, bi_max, bi_min, mt_append, mt_part, mt_split, mt_splitN, mt_join, sl_tup, sl_lst, seqV, end_raw, Option.bind_some, Option.map_some, chk_nil, List.append_nil, okR_ok, okQ_ok, c_ins, c_nins, Int.cast_ofNat_Int, List.length_cons, List.length_nil, List.cons.injEq, and_self, and_true, true_and, and_false, false_and, Nat.zero_add, not_true_eq_false, not_false_eq_true, Bool.true_and, Bool.and_true, Bool.false_and, Bool.and_false, Bool.true_or, Bool.or_true, Bool.false_or, Bool.or_false, beq_self_eq_true, eq_self, h2, Nat.reduceBEq, Int.reduceBEq, String.reduceBEq, String.reduceEq, Nat.reduceEqDiff, reduceCtorEq, Int.reduceNeg, Int.reduceLT, Int.reduceLE, Int.reduceEq, Int.reduceAdd, Int.reduceSub, Nat.reduceLT, Nat.reduceLeDiff, Nat.reduceAdd, Nat.reduceSub, Nat.reduceEqDiff]
  · simp (config := {implicitDefEqProofs := false}) only [evSs_nil, nx_nx, nx_rt, evS, evE, evEs, evO, evC, evI, R.bind_ok, R.bind_exc, R.q_ok, R.q_exc, R.of_some, R.nox_ok, Q.bind_nx, Q.bind_rt, Q.bind_bk, Q.bind_ct, Q.bind_exc, fin_rt, fin_nx, fin_exc, List.getElem?_cons_zero, List.getElem?_cons_succ, List.set_cons_zero, List.set_cons_succ, asgT, asgTs, lstOf, wipeS, srcOf, if_true, if_false, Bool.false_eq_true, Bool.true_eq_false, Bool.not_true, Bool.not_false, decide_true, decide_false, t_bl, t_int, t_non, t_tup, t_lst, c_lt, c_le, c_gt, c_ge, c_eqi, c_nei, c_eqs, c_nes, c_isN, c_isnN, c_isB, c_isnB, b_add, b_sub, ix_tup, ix_frz, ix_scr, at0, at1, isTys_nil, isTys_cons, ty_int_non, ty_int_bl, ty_int_int, ty_int_str, ty_int_tup, ty_int_lst, ty_int_dic, ty_bool_non, ty_bool_bl, ty_bool_int, ty_bool_str, ty_bool_tup, ty_bool_lst, ty_bool_dic, ty_str_non, ty_str_bl, ty_str_int, ty_str_str, ty_str_tup, ty_str_lst, ty_str_dic, ty_tuple_non, ty_tuple_bl, ty_tuple_int, ty_tuple_str, ty_tuple_tup, ty_tuple_lst, ty_tuple_dic, ty_list_non, ty_list_bl, ty_list_int, ty_list_str, ty_list_tup, ty_list_lst, ty_list_dic, ty_dict_non, ty_dict_bl, ty_dict_int, ty_dict_str, ty_dict_tup, ty_dict_lst, ty_dict_dic, ty_err_exn, ty_own_exn, bi_len_scr, bi_len_tup, bi_len_lst, bi_tuple_lst, bi_tuple_tup, bi_list_lst, bi_list_tup, bi_max, bi_min, mt_append, mt_part, mt_split, mt_splitN, mt_join, sl_tup, sl_lst, seqV, end_raw, Option.bind_some, Option.map_some, chk_nil, List.append_nil, okR_ok, okQ_ok, c_ins, c_nins, Int.cast_ofNat_Int, List.length_cons, List.length_nil, List.cons.injEq, and_self, and_true, true_and, and_false, false_and, Nat.zero_add, not_true_eq_false, not_false_eq_true, Bool.true_and, Bool.and_true, Bool.false_and, Bool.and_false, Bool.true_or, Bool.or_true, Bool.false_or, Bool.or_false, beq_self_eq_true, eq_self, h1, Nat.reduceBEq, Int.reduceBEq, String.reduceBEq, String.reduceEq, Nat.reduceEqDiff, reduceCtorEq, Int.reduceNeg, Int.reduceLT, Int.reduceLE, Int.reduceEq, Int.reduceAdd, Int.reduceSub, Nat.reduceLT, Nat.reduceLeDiff, Nat.reduceAdd, Nat.reduceSub, Nat.reduceEqDiff]
theorem line_ok (hm : 3 ≤ m) (g : GL G Fs kw le di ml gm fw fwl) (hF : Fs[fln]? = some (Fline fwl)) {d : D} (hd : tm d = true) (hs : shS 900000 d = true) (h : Hs) : callN G Fs m fln [d] h = .ok (.bl (isLine d)) h := by
  obtain ⟨n, rfl⟩ : ∃ n, m = n + 1 := ⟨m - 1, by omega⟩
  rw [callN_eq hF rfl]
  cases d with
  | str s =>
    have hl : s.length < 900000 := of_decide_eq_true hs
    obtain ⟨h1, h2, h3⟩ := split_len (c := 32) (s := s)
    simp (config := {implicitDefEqProofs := false}) only [evSs_nil, nx_nx, nx_rt, evS, evE, evEs, evO, evC, evI, R.bind_ok, R.bind_exc, R.q_ok, R.q_exc, R.of_some, R.nox_ok, Q.bind_nx, Q.bind_rt, Q.bind_bk, Q.bind_ct, Q.bind_exc, fin_rt, fin_nx, fin_exc, List.getElem?_cons_zero, List.getElem?_cons_succ, List.set_cons_zero, List.set_cons_succ, asgT, asgTs, lstOf, wipeS, srcOf, if_true, if_false, Bool.false_eq_true, Bool.true_eq_false, Bool.not_true, Bool.not_false, decide_true, decide_false, t_bl, t_int, t_non, t_tup, t_lst, c_lt, c_le, c_gt, c_ge, c_eqi, c_nei, c_eqs, c_nes, c_isN, c_isnN, c_isB, c_isnB, b_add, b_sub, ix_tup, ix_frz, ix_scr, at0, at1, isTys_nil, isTys_cons, ty_int_non, ty_int_bl, ty_int_int, ty_int_str, ty_int_tup, ty_int_lst, ty_int_dic, ty_bool_non, ty_bool_bl, ty_bool_int, ty_bool_str, ty_bool_tup, ty_bool_lst, ty_bool_dic, ty_str_non, ty_str_bl, ty_str_int, ty_str_str, ty_str_tup, ty_str_lst, ty_str_dic, ty_tuple_non, ty_tuple_bl, ty_tuple_int, ty_tuple_str, ty_tuple_tup, ty_tuple_lst, ty_tuple_dic, ty_list_non, ty_list_bl, ty_list_int, ty_list_str, ty_list_tup, ty_list_lst, ty_list_dic, ty_dict_non, ty_dict_bl, ty_dict_int, ty_dict_str, ty_dict_tup, ty_dict_lst, ty_dict_dic, ty_err_exn, ty_own_exn, bi_len_scr, bi_len_tup, bi_len_lst, bi_tuple_lst, bi_tuple_tup, bi_list_lst, bi_list_tup, bi_max, bi_min, mt_append, mt_part, mt_split, mt_splitN, mt_join, sl_tup, sl_lst, seqV, end_raw, Option.bind_some, Option.map_some, chk_nil, List.append_nil, okR_ok, okQ_ok, c_ins, c_nins, Int.cast_ofNat_Int, List.length_cons, List.length_nil, List.cons.injEq, and_self, and_true, true_and, and_false, false_and, Nat.zero_add, not_true_eq_false, not_false_eq_true, Bool.true_and, Bool.and_true, Bool.false_and, Bool.and_false, Bool.true_or, Bool.or_true, Bool.false_or, Bool.or_false, beq_self_eq_true, eq_self, evSs, Fline, List.map_cons, List.map_nil, List.replicate, List.cons_append, List.nil_append, m_split (s := s) (c := 32) (show 32 < 256 ∧ s.length + 2 ≤ lim by unfold lim; omega), wl_ok (show 2 ≤ n by omega) g (show (splitL 32 s).length < lim by unfold lim; omega) (fun w hw => show w.length < lim by have := h3 w hw; unfold lim; omega), end_pure0 (show pl 40 (.bl (isWL (splitL 32 s))) = true from rfl), isLine, isLineS, Nat.reduceBEq, Int.reduceBEq, String.reduceBEq, String.reduceEq, Nat.reduceEqDiff, reduceCtorEq, Int.reduceNeg, Int.reduceLT, Int.reduceLE, Int.reduceEq, Int.reduceAdd, Int.reduceSub, Nat.reduceLT, Nat.reduceLeDiff, Nat.reduceAdd, Nat.reduceSub, Nat.reduceEqDiff]
  | _ => first | (simp [tm] at hd; done) | (simp (config := {implicitDefEqProofs := false}) only [evSs_nil, nx_nx, nx_rt, evS, evE, evEs, evO, evC, evI, R.bind_ok, R.bind_exc, R.q_ok, R.q_exc, R.of_some, R.nox_ok, Q.bind_nx, Q.bind_rt, Q.bind_bk, Q.bind_ct, Q.bind_exc, fin_rt, fin_nx, fin_exc, List.getElem?_cons_zero, List.getElem?_cons_succ, List.set_cons_zero, List.set_cons_succ, asgT, asgTs, lstOf, wipeS, srcOf, if_true, if_false, Bool.false_eq_true, Bool.true_eq_false, Bool.not_true, Bool.not_false, decide_true, decide_false, t_bl, t_int, t_non, t_tup, t_lst, c_lt, c_le, c_gt, c_ge, c_eqi, c_nei, c_eqs, c_nes, c_isN, c_isnN, c_isB, c_isnB, b_add, b_sub, ix_tup, ix_frz, ix_scr, at0, at1, isTys_nil, isTys_cons, ty_int_non, ty_int_bl, ty_int_int, ty_int_str, ty_int_tup, ty_int_lst, ty_int_dic, ty_bool_non, ty_bool_bl, ty_bool_int, ty_bool_str, ty_bool_tup, ty_bool_lst, ty_bool_dic, ty_str_non, ty_str_bl, ty_str_int, ty_str_str, ty_str_tup, ty_str_lst, ty_str_dic, ty_tuple_non, ty_tuple_bl, ty_tuple_int, ty_tuple_str, ty_tuple_tup, ty_tuple_lst, ty_tuple_dic, ty_list_non, ty_list_bl, ty_list_int, ty_list_str, ty_list_tup, ty_list_lst, ty_list_dic, ty_dict_non, ty_dict_bl, ty_dict_int, ty_dict_str, ty_dict_tup, ty_dict_lst, ty_dict_dic, ty_err_exn, ty_own_exn, bi_len_scr, bi_len_tup, bi_len_lst, bi_tuple_lst, bi_tuple_tup, bi_list_lst, bi_list_tup, bi_max, bi_min, mt_append, mt_part, mt_split, mt_splitN, mt_join, sl_tup, sl_lst, seqV, end_raw, Option.bind_some, Option.map_some, chk_nil, List.append_nil, okR_ok, okQ_ok, c_ins, c_nins, Int.cast_ofNat_Int, List.length_cons, List.length_nil, List.cons.injEq, and_self, and_true, true_and, and_false, false_and, Nat.zero_add, not_true_eq_false, not_false_eq_true, Bool.true_and, Bool.and_true, Bool.false_and, Bool.and_false, Bool.true_or, Bool.or_true, Bool.false_or, Bool.or_false, beq_self_eq_true, eq_self, evSs, Fline, isLine, List.map_cons, List.map_nil, List.replicate, List.cons_append, List.nil_append, Nat.reduceBEq, Int.reduceBEq, String.reduceBEq, String.reduceEq, Nat.reduceEqDiff, reduceCtorEq, Int.reduceNeg, Int.reduceLT, Int.reduceLE, Int.reduceEq, Int.reduceAdd, Int.reduceSub, Nat.reduceLT, Nat.reduceLeDiff, Nat.reduceAdd, Nat.reduceSub, Nat.reduceEqDiff])
theorem split_no {fsp c : Nat} {mm : MT} (hm : 4 ≤ m) (g : GL G Fs kw le di ml gm fw fwl) (hF : Fs[fln]? = some (Fline fwl)) (hS : Fs[fsp]? = some (Fsplit fln c mm)) (hc : G.flc[c]? = some 0) {d : D} (hd : tm d = true) (hs : shS 900000 d = true) (hn : isLine d = false) (h : Hs) :
    callN G Fs m fsp [d] h = .exc c [] h := by
  obtain ⟨n, rfl⟩ : ∃ n, m = n + 1 := ⟨m - 1, by omega⟩
  rw [callN_eq hS rfl]
  simp (config := {implicitDefEqProofs := false}) only [evSs_nil, nx_nx, nx_rt, evS, evE, evEs, evO, evC, evI, R.bind_ok, R.bind_exc, R.q_ok, R.q_exc, R.of_some, R.nox_ok, Q.bind_nx, Q.bind_rt, Q.bind_bk, Q.bind_ct, Q.bind_exc, fin_rt, fin_nx, fin_exc, List.getElem?_cons_zero, List.getElem?_cons_succ, List.set_cons_zero, List.set_cons_succ, asgT, asgTs, lstOf, wipeS, srcOf, if_true, if_false, Bool.false_eq_true, Bool.true_eq_false, Bool.not_true, Bool.not_false, decide_true, decide_false, t_bl, t_int, t_non, t_tup, t_lst, c_lt, c_le, c_gt, c_ge, c_eqi, c_nei, c_eqs, c_nes, c_isN, c_isnN, c_isB, c_isnB, b_add, b_sub, ix_tup, ix_frz, ix_scr, at0, at1, isTys_nil, isTys_cons, ty_int_non, ty_int_bl, ty_int_int, ty_int_str, ty_int_tup, ty_int_lst, ty_int_dic, ty_bool_non, ty_bool_bl, ty_bool_int, ty_bool_str, ty_bool_tup, ty_bool_lst, ty_bool_dic, ty_str_non, ty_str_bl, ty_str_int, ty_str_str, ty_str_tup, ty_str_lst, ty_str_dic, ty_tuple_non, ty_tuple_bl, ty_tuple_int, ty_tuple_str, ty_tuple_tup, ty_tuple_lst, ty_tuple_dic, ty_list_non, ty_list_bl, ty_list_int, ty_list_str, ty_list_tup, ty_list_lst, ty_list_dic, ty_dict_non, ty_dict_bl, ty_dict_int, ty_dict_str, ty_dict_tup, ty_dict_lst, ty_dict_dic, ty_err_exn, ty_own_exn, bi_len_scr, bi_len_tup, bi_len_lst, bi_tuple_lst, bi_tuple_tup, bi_list_lst, bi_list_tup, bi_max, bi_min, mt_append, mt_part, mt_split, mt_splitN, mt_join, sl_tup, sl_lst, seqV, end_raw, Option.bind_some, Option.map_some, chk_nil, List.append_nil, okR_ok, okQ_ok, c_ins, c_nins, Int.cast_ofNat_Int, List.length_cons, List.length_nil, List.cons.injEq, and_self, and_true, true_and, and_false, false_and, Nat.zero_add, not_true_eq_false, not_false_eq_true, Bool.true_and, Bool.and_true, Bool.false_and, Bool.and_false, Bool.true_or, Bool.or_true, Bool.false_or, Bool.or_false, beq_self_eq_true, eq_self, evSs, Fsplit, List.map_cons, List.map_nil, List.replicate, List.cons_append, List.nil_append, line_ok (show 3 ≤ n by omega) g hF hd hs, hn, end_pure0 (show pl 40 (.bl false) = true from rfl), hc, Nat.reduceBEq, Int.reduceBEq, String.reduceBEq, String.reduceEq, Nat.reduceEqDiff, reduceCtorEq, Int.reduceNeg, Int.reduceLT, Int.reduceLE, Int.reduceEq, Int.reduceAdd, Int.reduceSub, Nat.reduceLT, Nat.reduceLeDiff, Nat.reduceAdd, Nat.reduceSub, Nat.reduceEqDiff]
theorem split_yes {fsp c : Nat} (hm : 4 ≤ m) (g : GL G Fs kw le di ml gm fw fwl) (hF : Fs[fln]? = some (Fline fwl)) (hS : Fs[fsp]? = some (Fsplit fln c .split)) {s : List Nat} (hs : s.length < 900000) (hn : isLineS s = true) (h : Hs) :
    callN G Fs m fsp [.str s] h = .ok (.lst ((splitL 32 s).map .str)) h := by
  obtain ⟨n, rfl⟩ : ∃ n, m = n + 1 := ⟨m - 1, by omega⟩
  rw [callN_eq hS rfl]
  simp (config := {implicitDefEqProofs := false}) only [evSs_nil, nx_nx, nx_rt, evS, evE, evEs, evO, evC, evI, R.bind_ok, R.bind_exc, R.q_ok, R.q_exc, R.of_some, R.nox_ok, Q.bind_nx, Q.bind_rt, Q.bind_bk, Q.bind_ct, Q.bind_exc, fin_rt, fin_nx, fin_exc, List.getElem?_cons_zero, List.getElem?_cons_succ, List.set_cons_zero, List.set_cons_succ, asgT, asgTs, lstOf, wipeS, srcOf, if_true, if_false, Bool.false_eq_true, Bool.true_eq_false, Bool.not_true, Bool.not_false, decide_true, decide_false, t_bl, t_int, t_non, t_tup, t_lst, c_lt, c_le, c_gt, c_ge, c_eqi, c_nei, c_eqs, c_nes, c_isN, c_isnN, c_isB, c_isnB, b_add, b_sub, ix_tup, ix_frz, ix_scr, at0, at1, isTys_nil, isTys_cons, ty_int_non, ty_int_bl, ty_int_int, ty_int_str, ty_int_tup, ty_int_lst, ty_int_dic, ty_bool_non, ty_bool_bl, ty_bool_int, ty_bool_str, ty_bool_tup, ty_bool_lst, ty_bool_dic, ty_str_non, ty_str_bl, ty_str_int, ty_str_str, ty_str_tup, ty_str_lst, ty_str_dic, ty_tuple_non, ty_tuple_bl, ty_tuple_int, ty_tuple_str, ty_tuple_tup, ty_tuple_lst, ty_tuple_dic, ty_list_non, ty_list_bl, ty_list_int, ty_list_str, ty_list_tup, ty_list_lst, ty_list_dic, ty_dict_non, ty_dict_bl, ty_dict_int, ty_dict_str, ty_dict_tup, ty_dict_lst, ty_dict_dic, ty_err_exn, ty_own_exn, bi_len_scr, bi_len_tup, bi_len_lst, bi_tuple_lst, bi_tuple_tup, bi_list_lst, bi_list_tup, bi_max, bi_min, mt_append, mt_part, mt_split, mt_splitN, mt_join, sl_tup, sl_lst, seqV, end_raw, Option.bind_some, Option.map_some, chk_nil, List.append_nil, okR_ok, okQ_ok, c_ins, c_nins, Int.cast_ofNat_Int, List.length_cons, List.length_nil, List.cons.injEq, and_self, and_true, true_and, and_false, false_and, Nat.zero_add, not_true_eq_false, not_false_eq_true, Bool.true_and, Bool.and_true, Bool.false_and, Bool.and_false, Bool.true_or, Bool.or_true, Bool.false_or, Bool.or_false, beq_self_eq_true, eq_self, evSs, Fsplit, List.map_cons, List.map_nil, List.replicate, List.cons_append, List.nil_append, line_ok (show 3 ≤ n by omega) g hF (d := .str s) rfl (decide_eq_true hs), show isLine (.str s) = true from hn, end_pure0 (show pl 40 (.bl true) = true from rfl), m_split (s := s) (c := 32) (show 32 < 256 ∧ s.length + 2 ≤ lim by unfold lim; omega), Nat.reduceBEq, Int.reduceBEq, String.reduceBEq, String.reduceEq, Nat.reduceEqDiff, reduceCtorEq, Int.reduceNeg, Int.reduceLT, Int.reduceLE, Int.reduceEq, Int.reduceAdd, Int.reduceSub, Nat.reduceLT, Nat.reduceLeDiff, Nat.reduceAdd, Nat.reduceSub, Nat.reduceEqDiff]
theorem split_yesN {fsp c : Nat} (hm : 4 ≤ m) (g : GL G Fs kw le di ml gm fw fwl) (hF : Fs[fln]? = some (Fline fwl)) (hS : Fs[fsp]? = some (Fsplit fln c .splitN)) {s : List Nat} (hs : s.length < 900000) (hn : isLineS s = true) (h : Hs) :
    callN G Fs m fsp [.str s] h = .ok (.ref h.length) (h ++ [.lst ((splitL 32 s).map .str)]) := by
  obtain ⟨n, rfl⟩ : ∃ n, m = n + 1 := ⟨m - 1, by omega⟩
  rw [callN_eq hS rfl]
  simp (config := {implicitDefEqProofs := false}) only [evSs_nil, nx_nx, nx_rt, evS, evE, evEs, evO, evC, evI, R.bind_ok, R.bind_exc, R.q_ok, R.q_exc, R.of_some, R.nox_ok, Q.bind_nx, Q.bind_rt, Q.bind_bk, Q.bind_ct, Q.bind_exc, fin_rt, fin_nx, fin_exc, List.getElem?_cons_zero, List.getElem?_cons_succ, List.set_cons_zero, List.set_cons_succ, asgT, asgTs, lstOf, wipeS, srcOf, if_true, if_false, Bool.false_eq_true, Bool.true_eq_false, Bool.not_true, Bool.not_false, decide_true, decide_false, t_bl, t_int, t_non, t_tup, t_lst, c_lt, c_le, c_gt, c_ge, c_eqi, c_nei, c_eqs, c_nes, c_isN, c_isnN, c_isB, c_isnB, b_add, b_sub, ix_tup, ix_frz, ix_scr, at0, at1, isTys_nil, isTys_cons, ty_int_non, ty_int_bl, ty_int_int, ty_int_str, ty_int_tup, ty_int_lst, ty_int_dic, ty_bool_non, ty_bool_bl, ty_bool_int, ty_bool_str, ty_bool_tup, ty_bool_lst, ty_bool_dic, ty_str_non, ty_str_bl, ty_str_int, ty_str_str, ty_str_tup, ty_str_lst, ty_str_dic, ty_tuple_non, ty_tuple_bl, ty_tuple_int, ty_tuple_str, ty_tuple_tup, ty_tuple_lst, ty_tuple_dic, ty_list_non, ty_list_bl, ty_list_int, ty_list_str, ty_list_tup, ty_list_lst, ty_list_dic, ty_dict_non, ty_dict_bl, ty_dict_int, ty_dict_str, ty_dict_tup, ty_dict_lst, ty_dict_dic, ty_err_exn, ty_own_exn, bi_len_scr, bi_len_tup, bi_len_lst, bi_tuple_lst, bi_tuple_tup, bi_list_lst, bi_list_tup, bi_max, bi_min, mt_append, mt_part, mt_split, mt_splitN, mt_join, sl_tup, sl_lst, seqV, end_raw, Option.bind_some, Option.map_some, chk_nil, List.append_nil, okR_ok, okQ_ok, c_ins, c_nins, Int.cast_ofNat_Int, List.length_cons, List.length_nil, List.cons.injEq, and_self, and_true, true_and, and_false, false_and, Nat.zero_add, not_true_eq_false, not_false_eq_true, Bool.true_and, Bool.and_true, Bool.false_and, Bool.and_false, Bool.true_or, Bool.or_true, Bool.false_or, Bool.or_false, beq_self_eq_true, eq_self, evSs, Fsplit, List.map_cons, List.map_nil, List.replicate, List.cons_append, List.nil_append, line_ok (show 3 ≤ n by omega) g hF (d := .str s) rfl (decide_eq_true hs), show isLine (.str s) = true from hn, end_pure0 (show pl 40 (.bl true) = true from rfl), m_splitN (s := s) (c := 32) (show 32 < 256 ∧ s.length + 2 ≤ lim by unfold lim; omega), Nat.reduceBEq, Int.reduceBEq, String.reduceBEq, String.reduceEq, Nat.reduceEqDiff, reduceCtorEq, Int.reduceNeg, Int.reduceLT, Int.reduceLE, Int.reduceEq, Int.reduceAdd, Int.reduceSub, Nat.reduceLT, Nat.reduceLeDiff, Nat.reduceAdd, Nat.reduceSub, Nat.reduceEqDiff]
end
/-! ### joining and splitting -/
theorem strs_str {ws : List (List Nat)} : strsO (ws.map D.str) = some ws := by
  have := strs_map (p := fun w : List Nat => w) (l := ws)
  rwa [List.map_id'] at this
theorem split_ne {c : Nat} {s : List Nat} : splitL c s ≠ [] := fun z => by
  have := (split_len (c := c) (s := s)).1
  rw [z] at this
  simp at this
theorem split_app {c : Nat} : ∀ {w t : List Nat}, c ∉ w → splitL c (w ++ c :: t) = w :: splitL c t
  | [], t, _ => by simp [splitL]
  | x :: w, t, h => by
    simp only [List.mem_cons, not_or] at h
    simp only [List.cons_append, splitL, if_neg (fun z : x = c => h.1 z.symm), split_app h.2]
theorem split_self {c : Nat} : ∀ {w : List Nat}, c ∉ w → splitL c w = [w]
  | [], _ => rfl
  | x :: w, h => by
    simp only [List.mem_cons, not_or] at h
    simp only [splitL, if_neg (fun z : x = c => h.1 z.symm), split_self h.2]
theorem split_join {c : Nat} : ∀ {ws : List (List Nat)}, ws ≠ [] → (∀ w ∈ ws, c ∉ w) → splitL c (joinL [c] ws) = ws
  | [], h, _ => absurd rfl h
  | [w], _, h => split_self (h w (by simp))
  | w :: v :: ws, _, h => by
    have e : joinL [c] (w :: v :: ws) = w ++ c :: joinL [c] (v :: ws) := by simp [joinL]
    rw [e, split_app (h w (by simp)), split_join (by simp) fun u hu => h u (List.mem_cons_of_mem _ hu)]
theorem split_end {c : Nat} : ∀ {s : List Nat}, splitL c (s ++ [c]) = splitL c s ++ [[]]
  | [] => by simp [splitL]
  | x :: s => by
    by_cases e : x = c
    · simp only [List.cons_append, splitL, if_pos e, split_end]
    · simp only [List.cons_append, splitL, if_neg e, split_end]
      cases q : splitL c s with
      | nil => exact absurd q split_ne
      | cons w ws => rfl
theorem join_bound {c : Nat} {k : Nat} : ∀ {ws : List (List Nat)}, (∀ w ∈ ws, w.length ≤ k) → (joinL [c] ws).length ≤ ws.length * (k + 1)
  | [], _ => by simp [joinL]
  | [w], h => by
    have := h w (by simp)
    simp [joinL]; omega
  | w :: v :: ws, h => by
    have e : joinL [c] (w :: v :: ws) = w ++ c :: joinL [c] (v :: ws) := by simp [joinL]
    have h1 := h w (by simp)
    have h2 := join_bound (c := c) (ws := v :: ws) fun u hu => h u (List.mem_cons_of_mem _ hu)
    rw [e]
    simp only [List.length_append, List.length_cons] at h2 ⊢
    have e3 : (ws.length + 1 + 1) * (k + 1) = (ws.length + 1) * (k + 1) + (k + 1) := by rw [Nat.add_mul, Nat.one_mul]
    omega
end
end L2.MP
/-! MpQ: repr, plainly. -/
namespace L2.MP
open PySem
/-- a for's step, kept shut -/
def forF (G : Gl) (C : Nat → List D → Hs → R D) (t : T) (body : List S) : D → Sl → Hs → Q := fun x sl h => (R.of (asgT h t x sl) h).q sl fun sl h => evSs G C body sl h
theorem evS_for {G : Gl} {C : Nat → List D → Hs → R D} {t : T} {it : I} {body : List S} {sl : Sl} {h : Hs} : evS G C (.for_ t it body) sl h = (evI G C it sl h).q sl fun xs h => forL xs.2 (forF G C t body) xs.1 sl h := by
  simp only [evS]
  rfl
/-- a bound of repr's length -/
def rB : Nat → D → Nat
  | 0, _ => 0
  | n + 1, .tup xs => (xs.map (rB n)).sum + 2 * xs.length + 3
  | n + 1, .lst xs => (xs.map (rB n)).sum + 2 * xs.length + 3
  | _ + 1, .str s => 10 * s.length + 2
  | _ + 1, _ => 13
/-- repr takes it -/
def rG : Nat → D → Bool
  | 0, _ => false
  | n + 1, .tup xs => xs.all (rG n)
  | n + 1, .lst xs => xs.all (rG n)
  | _ + 1, .non => true
  | _ + 1, .bl _ => true
  | _ + 1, .int i => decide (i.natAbs < 10 ^ 12)
  | _ + 1, .str s => okB s
  | _ + 1, .dic [] [] => true
  | _ + 1, _ => false
def okT (x : Str) : Prop := okS x.cps.toList
theorem okT_app {x y : Str} (h : okT x) (k : okT y) : okT (x ++ y) := by
  intro c hc
  have e : (x ++ y).cps.toList = x.cps.toList ++ y.cps.toList := by
    show (Str.append x y).cps.toList = _
    unfold Str.append
    simp
  rw [e] at hc
  rcases List.mem_append.mp hc with hc | hc
  · exact h c hc
  · exact k c hc
theorem okT_lit (s : String) : okT (Str.ofString s) := by
  intro c hc
  rw [Str.ofString_eq_toList] at hc
  simp only [List.mem_map] at hc
  obtain ⟨ch, _, rfl⟩ := hc
  have := ch.valid
  simp only [Char.toNat]
  rcases this with h | h
  · have h2 : ch.val.toNat < 0xd800 := h
    omega
  · exact h.2
theorem char_ok (ch : Char) : ch.toNat < 1114112 := by
  have := ch.valid
  simp only [Char.toNat]
  rcases this with h | h
  · have h2 : ch.val.toNat < 0xd800 := h
    omega
  · exact h.2
theorem reprChar_ok {q c : Nat} (hq : q < 1114112) (hc : c < 1114112) : ∀ z ∈ Builtin.Str.reprChar q c, z < 1114112 := by
  have hx : ∀ w : Nat, ∀ z ∈ List.replicate (w - ((Nat.toDigits 16 c).map Char.toNat).length) 48 ++ (Nat.toDigits 16 c).map Char.toNat, z < 1114112 := fun w z hz => by
    rcases List.mem_append.mp hz with hz | hz
    · rw [(List.mem_replicate.mp hz).2]; decide
    · obtain ⟨ch, _, rfl⟩ := List.mem_map.mp hz
      exact char_ok ch
  intro z hz
  unfold Builtin.Str.reprChar at hz
  simp only at hz
  repeat' split at hz
  all_goals simp only [List.mem_cons, List.mem_append, List.not_mem_nil, or_false, List.cons_append, List.nil_append] at hz
  all_goals first
    | (rcases hz with rfl | rfl <;> first | assumption | decide)
    | (subst hz; assumption)
    | (rcases hz with rfl | rfl | hz
       · decide
       · decide
       · exact hx _ z (List.mem_append.mpr hz))
theorem reprText_ok {x : Str} (h : okT x) : okT (reprText x) := by
  have hq : reprQuote x < 1114112 := by
    unfold reprQuote
    split <;> decide
  intro z hz
  unfold reprText at hz
  simp only [Array.toList_push, List.mem_append, List.mem_singleton] at hz
  rcases hz with hz | rfl
  · rw [← Array.foldl_toList] at hz
    have go : ∀ (l : List Nat) (acc : Array Nat), (∀ c ∈ l, c < 1114112) → (∀ c ∈ acc.toList, c < 1114112) → ∀ c ∈ (l.foldl (fun out c => out ++ (Builtin.Str.reprChar (reprQuote x) c).toArray) acc).toList, c < 1114112 := fun l => by
      induction l with
      | nil => intro acc _ h; exact h
      | cons a l ih =>
        intro acc h1 h2
        refine ih _ (fun c hc => h1 c (List.mem_cons_of_mem _ hc)) fun c hc => ?_
        simp only [Array.toList_append, List.mem_append] at hc
        rcases hc with hc | hc
        · exact h2 c hc
        · exact reprChar_ok hq (h1 a (List.mem_cons_self ..)) c (by simpa using hc)
    exact go _ _ h (by intro c hc; simp at hc; rw [hc]; exact hq) z hz
  · exact hq
theorem textFrom_ok : ∀ (ts : List Str) (k : Nat) (acc : Str), okT acc → (∀ t ∈ ts, okT t) → okT (textFrom k acc ts)
  | [], k, acc, h, _ => h
  | t :: r, k, acc, h, ht => by
    show okT (textFrom (k + 1) _ r)
    refine textFrom_ok r _ _ (okT_app (okT_app h ?_) (ht t (List.mem_cons_self ..))) fun u hu => ht u (List.mem_cons_of_mem _ hu)
    exact okT_lit _
theorem listText_ok {ts : List Str} (h : ∀ t ∈ ts, okT t) : okT (listText ts) := okT_app (textFrom_ok ts _ _ (okT_lit _) h) (okT_lit _)
theorem join_okT {sep : Str} (hs : okT sep) : ∀ {ts : List Str}, (∀ t ∈ ts, okT t) → okT (Str.join sep ts)
  | [], _ => fun c hc => by simp [Str.join, Str.empty] at hc
  | [x], h => h x (by simp)
  | x :: y :: r, h => by
    show okT (x ++ sep ++ Str.join sep (y :: r))
    exact okT_app (okT_app (h x (by simp)) hs) (join_okT hs fun t ht => h t (List.mem_cons_of_mem _ ht))
theorem tupleText_ok {ts : List Str} (h : ∀ t ∈ ts, okT t) : okT (tupleText ts) := okT_app (okT_app (okT_lit _) (join_okT (okT_lit _) h)) (okT_lit _)
theorem okS_B {s : List Nat} (h : okS s) : okB s = true := List.all_eq_true.mpr fun c hc => decide_eq_true (h c hc)
/-- what repr is told of a value -/
structure RpOk (n : Nat) (d : D) (pd : PyData) : Prop where
  to : toPD d = some pd
  sh : pd.showable = true
  le : pd.shown.length ≤ rB n d
  ok : okT pd.shown
theorem rps {n : Nat} (f : ∀ d, rG n d = true → ∃ pd, RpOk n d pd) : ∀ {xs : List D}, xs.all (rG n) = true → ∃ pds, toPDs xs = some pds ∧ PyData.showableAll pds = true ∧ pds.length = xs.length ∧ ((PyData.shownAll pds).map (·.length)).sum ≤ (xs.map (rB n)).sum ∧ (PyData.shownAll pds).length = xs.length ∧ ∀ t ∈ PyData.shownAll pds, okT t
  | [], _ => ⟨[], rfl, rfl, rfl, by simp [PyData.shownAll], rfl, by simp [PyData.shownAll]⟩
  | x :: xs, h => by
    simp only [List.all_cons, Bool.and_eq_true] at h
    obtain ⟨pd, p⟩ := f x h.1
    obtain ⟨pds, q1, q2, q3, q4, q5, q6⟩ := rps f h.2
    refine ⟨pd :: pds, ?_, ?_, by simp [q3], ?_, by simp [PyData.shownAll, q5], ?_⟩
    · simp only [toPDs, p.to, q1, Option.bind_some]
    · simp only [PyData.showableAll, p.sh, q2, Bool.and_self]
    · simp only [PyData.shownAll, List.map_cons, List.sum_cons]
      have := p.le
      omega
    · intro t ht
      simp only [PyData.shownAll, List.mem_cons] at ht
      rcases ht with rfl | ht
      · exact p.ok
      · exact q6 t ht
theorem rp_of : ∀ {n : Nat} {d : D}, rG n d = true → ∃ pd, RpOk n d pd
  | 0, _, h => by cases h
  | n + 1, d, h => by
    cases d with
    | non => exact ⟨.none, rfl, rfl, by simp only [PyData.shown, rB]; decide, okT_lit _⟩
    | bl b =>
      cases b
      · exact ⟨.bool false, rfl, rfl, by simp only [PyData.shown, rB]; decide, okT_lit "False"⟩
      · exact ⟨.bool true, rfl, rfl, by simp only [PyData.shown, rB]; decide, okT_lit "True"⟩
    | int i =>
      have hi : i.natAbs < 10 ^ 12 := of_decide_eq_true h
      refine ⟨.int i, rfl, ?_, PyData.shown_int_le hi, okT_lit _⟩
      simp only [PyData.showable]
      refine decide_eq_true ?_
      have h2 : i.natAbs < 2 ^ 1920 := Nat.lt_of_lt_of_le hi (by decide)
      by_cases h0 : i.natAbs = 0
      · rw [h0]; decide
      · exact (Nat.log2_lt h0).mpr h2
    | str s =>
      have hs : okT ⟨s.toArray⟩ := by
        intro c hc
        exact okB_ok h c (by simpa using hc)
      refine ⟨.str ⟨s.toArray⟩, rfl, rfl, ?_, by simp only [PyData.shown]; exact reprText_ok hs⟩
      simp only [PyData.shown, rB]
      have := StrLaws.reprText_len ⟨s.toArray⟩ (fun c hc => by have := hs c hc; omega)
      have e : (⟨s.toArray⟩ : Str).length = s.length := by show s.toArray.size = _; simp
      rw [e] at this
      exact this
    | tup xs =>
      obtain ⟨pds, q1, q2, q3, q4, q5, q6⟩ := rps (fun d => rp_of (n := n) (d := d)) (show xs.all (rG n) = true from h)
      refine ⟨.tuple pds, by simp only [toPD, q1, Option.map_some], by simp only [PyData.showable, q2], ?_, by simp only [PyData.shown]; exact tupleText_ok q6⟩
      simp only [PyData.shown, rB]
      have := tupleText_len_le (PyData.shownAll pds)
      omega
    | lst xs =>
      obtain ⟨pds, q1, q2, q3, q4, q5, q6⟩ := rps (fun d => rp_of (n := n) (d := d)) (show xs.all (rG n) = true from h)
      refine ⟨.list pds, by simp only [toPD, q1, Option.map_some], by simp only [PyData.showable, q2], ?_, by simp only [PyData.shown]; exact listText_ok q6⟩
      simp only [PyData.shown, rB]
      have := listText_len_le (PyData.shownAll pds)
      omega
    | dic ks vs =>
      cases ks with
      | cons => cases h
      | nil =>
        cases vs with
        | cons => cases h
        | nil =>
          refine ⟨.dict [], rfl, rfl, ?_, okT_app (okT_app (okT_lit _) (join_okT (okT_lit _) (by simp [PyData.shownKv]))) (okT_lit _)⟩
          have := dictText_len_le (PyData.shownKv [])
          simp only [PyData.shownKv, List.map_nil, List.sum_nil, List.length_nil] at this
          simp only [PyData.shown, rB, PyData.shownKv]
          omega
    | ref _ => cases h
    | exn _ _ => cases h
    | scr _ => cases h
/-- what repr says of a value read to the ground -/
def rpS (d : D) : List Nat := match toPD d with
  | some pd => pd.shown.cps.toList
  | none => []
theorem repr_ok {h : Hs} {x x' : D} {n : Nat} {nd : Bool} (hd : deep true h 40 x = some x') (hg : rG n x' = true) (hb : rB n x' ≤ lim) : biD .repr nd [x] h = .ok (.str (rpS x')) h := by
  obtain ⟨pd, p⟩ := rp_of hg
  show (R.of ((deep true h 40 x).bind toPD) h).bind _ = _
  have hk : pd.showable = true ∧ pd.shown.length ≤ lim ∧ okB pd.shown.cps.toList = true := ⟨p.sh, Nat.le_trans p.le hb, okS_B p.ok⟩
  simp only [hd, Option.bind_some, p.to, R.of_some, R.bind_ok, if_pos hk, rpS]
end L2.MP
/-! MpW2: names, numbers, labels (expanded by pp.py). -/
namespace L2.MP
open PySem
def Fname (fw le kw : Nat) : Fn := ⟨1, 1, [.ret (some (.and (.call fw [.var 0] .pure) (.and (.cmp .In (.ix (.var 0) (.cst (.int 0))) (.glb le)) (.cmp .NotIn (.var 0) (.glb kw)))))]⟩
def Fnum (fw md di : Nat) : Fn := ⟨1, 2, [.ite (.or (.not (.call fw [.var 0] .pure)) (.or (.cmp .Gt (.bi .len [.var 0] false) (.glb md)) (.not (.bi .all [.lc [1] (.nm 1) (.ex (.var 0)) none (.cmp .In (.var 1) (.glb di)) false] false)))) [.ret (some (.cst .non))] [],
  .ite (.and (.cmp .Gt (.bi .len [.var 0] false) (.cst (.int 1))) (.cmp .Eq (.ix (.var 0) (.cst (.int 0))) (.cst (.str [48])))) [.ret (some (.cst .non))] [], .ret (some (.bi .int [.var 0] false))]⟩
def Flabel (fn fp : Nat) : Fn := ⟨1, 1, [.ret (some (.or (.call fn [.var 0] .pure) (.cmp .IsNot (.call fp [.var 0] .pure) (.cst .non))))]⟩
def isNameS (s : List Nat) : Bool := isWordS s && ((match s with
  | c :: _ => decide (c ∈ lets)
  | [] => false) && !kwL.any fun t => t == s)
def isName : D → Bool
  | .str s => isNameS s
  | _ => false
def numS (s : List Nat) : D := if isWordS s = true ∧ s.length ≤ 4 ∧ s.all (fun c => decide (c ∈ digs)) = true then (match s with
  | 48 :: _ :: _ => .non
  | _ => .int (natOf s 0)) else .non
def numD : D → D
  | .str s => numS s
  | _ => .non
def isLabel (d : D) : Bool := isName d || (match numD d with
  | .non => false
  | _ => true)
theorem numD_pl (d : D) : pl 40 (numD d) = true := by
  cases d <;> first | rfl | skip
  simp only [numD, numS]
  split
  · split <;> rfl
  · rfl
theorem pk_kw : ∀ z ∈ kwL.map D.str, pl 40 z = true := fun z hz => by
  obtain ⟨t, _, rfl⟩ := List.mem_map.mp hz
  rfl
theorem any_kw (s : List Nat) : ((kwL.map D.str).any fun z => eqT z (.str s)) = kwL.any fun t => t == s := by
  rw [List.any_map]
  rfl
theorem digs_digit {s : List Nat} (h : s.all (fun c => decide (c ∈ digs)) = true) : s.all digit = true := by
  refine List.all_eq_true.mpr fun c hc => ?_
  have := of_decide_eq_true (List.all_eq_true.mp h c hc)
  simp only [digs, List.mem_cons, List.not_mem_nil, or_false] at this
  rcases this with rfl | rfl | rfl | rfl | rfl | rfl | rfl | rfl | rfl | rfl <;> decide
theorem ix_str {h : Hs} {c : Nat} {s : List Nat} (hl : (c :: s).length ≤ lim) : ixD h (.str (c :: s)) (.int 0) = some (.str [c]) := by
  show (if (c :: s).length ≤ lim then (L2.atI (c :: s) 0).map fun c => D.str [c] else none) = _
  rw [if_pos hl, at0]
  rfl
section
variable {G : Gl} {Fs : List Fn} {m f fw kw le di ml md fn fp : Nat}
theorem name_ok (hm : 2 ≤ m) (hF : Fs[f]? = some (Fname fw le kw)) (hW : Fs[fw]? = some (Fword kw le di ml)) (g : GW G kw le di ml) {d : D} (hd : tm d = true) (hs : shS lim d = true) (h : Hs) : callN G Fs m f [d] h = .ok (.bl (isName d)) h := by
  obtain ⟨n, rfl⟩ : ∃ n, m = n + 1 := ⟨m - 1, by omega⟩
  rw [callN_eq hF rfl]
  simp (config := {implicitDefEqProofs := false}) only [evSs_nil, nx_nx, nx_rt, evS.eq_1, evS.eq_2, evS.eq_3, evS.eq_4, evS.eq_5, evS.eq_6, evS.eq_7, evS_for, evS.eq_9, evS.eq_10, evS.eq_11, evS.eq_12, evS.eq_13, evS.eq_14, evE, evEs, evO, evC, evI, R.bind_ok, R.bind_exc, R.q_ok, R.q_exc, R.of_some, R.nox_ok, Q.bind_nx, Q.bind_rt, Q.bind_bk, Q.bind_ct, Q.bind_exc, fin_rt, fin_nx, fin_exc, List.getElem?_cons_zero, List.getElem?_cons_succ, List.set_cons_zero, List.set_cons_succ, asgT, asgTs, lstOf, wipeS, srcOf, if_true, if_false, Bool.false_eq_true, Bool.true_eq_false, Bool.not_true, Bool.not_false, decide_true, decide_false, t_bl, t_int, t_non, t_tup, t_lst, c_lt, c_le, c_gt, c_ge, c_eqi, c_nei, c_eqs, c_nes, c_isN, c_isnN, c_isB, c_isnB, b_add, b_sub, ix_tup, ix_frz, ix_scr, at0, at1, isTys_nil, isTys_cons, ty_int_non, ty_int_bl, ty_int_int, ty_int_str, ty_int_tup, ty_int_lst, ty_int_dic, ty_bool_non, ty_bool_bl, ty_bool_int, ty_bool_str, ty_bool_tup, ty_bool_lst, ty_bool_dic, ty_str_non, ty_str_bl, ty_str_int, ty_str_str, ty_str_tup, ty_str_lst, ty_str_dic, ty_tuple_non, ty_tuple_bl, ty_tuple_int, ty_tuple_str, ty_tuple_tup, ty_tuple_lst, ty_tuple_dic, ty_list_non, ty_list_bl, ty_list_int, ty_list_str, ty_list_tup, ty_list_lst, ty_list_dic, ty_dict_non, ty_dict_bl, ty_dict_int, ty_dict_str, ty_dict_tup, ty_dict_lst, ty_dict_dic, ty_err_exn, ty_own_exn, bi_len_scr, bi_len_tup, bi_len_lst, bi_tuple_lst, bi_tuple_tup, bi_list_lst, bi_list_tup, bi_max, bi_min, mt_append, mt_part, mt_split, mt_splitN, mt_join, sl_tup, sl_lst, seqV, end_raw, Option.bind_some, Option.map_some, chk_nil, List.append_nil, okR_ok, okQ_ok, c_ins, c_nins, Int.cast_ofNat_Int, List.length_cons, List.length_nil, List.cons.injEq, and_self, and_true, true_and, and_false, false_and, Nat.zero_add, not_true_eq_false, not_false_eq_true, Bool.true_and, Bool.and_true, Bool.false_and, Bool.and_false, Bool.true_or, Bool.or_true, Bool.false_or, Bool.or_false, beq_self_eq_true, eq_self, evSs, Fname, List.map_cons, List.map_nil, List.replicate, List.cons_append, List.nil_append, word_ok (show 1 ≤ n by omega) hW g hd hs, end_pure0 (show pl 40 (.bl (isWord d)) = true from rfl), Nat.reduceBEq, Int.reduceBEq, String.reduceBEq, String.reduceEq, Nat.reduceEqDiff, reduceCtorEq, Int.reduceNeg, Int.reduceLT, Int.reduceLE, Int.reduceEq, Int.reduceAdd, Int.reduceSub, Nat.reduceLT, Nat.reduceLeDiff, Nat.reduceAdd, Nat.reduceSub, Nat.reduceEqDiff]
  cases d with
  | str s =>
    have hl : s.length ≤ lim := Nat.le_of_lt (of_decide_eq_true hs)
    cases e : isWordS s with
    | false => simp (config := {implicitDefEqProofs := false}) only [evSs_nil, nx_nx, nx_rt, evS.eq_1, evS.eq_2, evS.eq_3, evS.eq_4, evS.eq_5, evS.eq_6, evS.eq_7, evS_for, evS.eq_9, evS.eq_10, evS.eq_11, evS.eq_12, evS.eq_13, evS.eq_14, evE, evEs, evO, evC, evI, R.bind_ok, R.bind_exc, R.q_ok, R.q_exc, R.of_some, R.nox_ok, Q.bind_nx, Q.bind_rt, Q.bind_bk, Q.bind_ct, Q.bind_exc, fin_rt, fin_nx, fin_exc, List.getElem?_cons_zero, List.getElem?_cons_succ, List.set_cons_zero, List.set_cons_succ, asgT, asgTs, lstOf, wipeS, srcOf, if_true, if_false, Bool.false_eq_true, Bool.true_eq_false, Bool.not_true, Bool.not_false, decide_true, decide_false, t_bl, t_int, t_non, t_tup, t_lst, c_lt, c_le, c_gt, c_ge, c_eqi, c_nei, c_eqs, c_nes, c_isN, c_isnN, c_isB, c_isnB, b_add, b_sub, ix_tup, ix_frz, ix_scr, at0, at1, isTys_nil, isTys_cons, ty_int_non, ty_int_bl, ty_int_int, ty_int_str, ty_int_tup, ty_int_lst, ty_int_dic, ty_bool_non, ty_bool_bl, ty_bool_int, ty_bool_str, ty_bool_tup, ty_bool_lst, ty_bool_dic, ty_str_non, ty_str_bl, ty_str_int, ty_str_str, ty_str_tup, ty_str_lst, ty_str_dic, ty_tuple_non, ty_tuple_bl, ty_tuple_int, ty_tuple_str, ty_tuple_tup, ty_tuple_lst, ty_tuple_dic, ty_list_non, ty_list_bl, ty_list_int, ty_list_str, ty_list_tup, ty_list_lst, ty_list_dic, ty_dict_non, ty_dict_bl, ty_dict_int, ty_dict_str, ty_dict_tup, ty_dict_lst, ty_dict_dic, ty_err_exn, ty_own_exn, bi_len_scr, bi_len_tup, bi_len_lst, bi_tuple_lst, bi_tuple_tup, bi_list_lst, bi_list_tup, bi_max, bi_min, mt_append, mt_part, mt_split, mt_splitN, mt_join, sl_tup, sl_lst, seqV, end_raw, Option.bind_some, Option.map_some, chk_nil, List.append_nil, okR_ok, okQ_ok, c_ins, c_nins, Int.cast_ofNat_Int, List.length_cons, List.length_nil, List.cons.injEq, and_self, and_true, true_and, and_false, false_and, Nat.zero_add, not_true_eq_false, not_false_eq_true, Bool.true_and, Bool.and_true, Bool.false_and, Bool.and_false, Bool.true_or, Bool.or_true, Bool.false_or, Bool.or_false, beq_self_eq_true, eq_self, isWord, e, isName, isNameS, Nat.reduceBEq, Int.reduceBEq, String.reduceBEq, String.reduceEq, Nat.reduceEqDiff, reduceCtorEq, Int.reduceNeg, Int.reduceLT, Int.reduceLE, Int.reduceEq, Int.reduceAdd, Int.reduceSub, Nat.reduceLT, Nat.reduceLeDiff, Nat.reduceAdd, Nat.reduceSub, Nat.reduceEqDiff]
    | true =>
      cases s with
      | nil => exact absurd e (by decide)
      | cons c s =>
        by_cases hc : c ∈ lets
        · simp (config := {implicitDefEqProofs := false}) only [evSs_nil, nx_nx, nx_rt, evS.eq_1, evS.eq_2, evS.eq_3, evS.eq_4, evS.eq_5, evS.eq_6, evS.eq_7, evS_for, evS.eq_9, evS.eq_10, evS.eq_11, evS.eq_12, evS.eq_13, evS.eq_14, evE, evEs, evO, evC, evI, R.bind_ok, R.bind_exc, R.q_ok, R.q_exc, R.of_some, R.nox_ok, Q.bind_nx, Q.bind_rt, Q.bind_bk, Q.bind_ct, Q.bind_exc, fin_rt, fin_nx, fin_exc, List.getElem?_cons_zero, List.getElem?_cons_succ, List.set_cons_zero, List.set_cons_succ, asgT, asgTs, lstOf, wipeS, srcOf, if_true, if_false, Bool.false_eq_true, Bool.true_eq_false, Bool.not_true, Bool.not_false, decide_true, decide_false, t_bl, t_int, t_non, t_tup, t_lst, c_lt, c_le, c_gt, c_ge, c_eqi, c_nei, c_eqs, c_nes, c_isN, c_isnN, c_isB, c_isnB, b_add, b_sub, ix_tup, ix_frz, ix_scr, at0, at1, isTys_nil, isTys_cons, ty_int_non, ty_int_bl, ty_int_int, ty_int_str, ty_int_tup, ty_int_lst, ty_int_dic, ty_bool_non, ty_bool_bl, ty_bool_int, ty_bool_str, ty_bool_tup, ty_bool_lst, ty_bool_dic, ty_str_non, ty_str_bl, ty_str_int, ty_str_str, ty_str_tup, ty_str_lst, ty_str_dic, ty_tuple_non, ty_tuple_bl, ty_tuple_int, ty_tuple_str, ty_tuple_tup, ty_tuple_lst, ty_tuple_dic, ty_list_non, ty_list_bl, ty_list_int, ty_list_str, ty_list_tup, ty_list_lst, ty_list_dic, ty_dict_non, ty_dict_bl, ty_dict_int, ty_dict_str, ty_dict_tup, ty_dict_lst, ty_dict_dic, ty_err_exn, ty_own_exn, bi_len_scr, bi_len_tup, bi_len_lst, bi_tuple_lst, bi_tuple_tup, bi_list_lst, bi_list_tup, bi_max, bi_min, mt_append, mt_part, mt_split, mt_splitN, mt_join, sl_tup, sl_lst, seqV, end_raw, Option.bind_some, Option.map_some, chk_nil, List.append_nil, okR_ok, okQ_ok, c_ins, c_nins, Int.cast_ofNat_Int, List.length_cons, List.length_nil, List.cons.injEq, and_self, and_true, true_and, and_false, false_and, Nat.zero_add, not_true_eq_false, not_false_eq_true, Bool.true_and, Bool.and_true, Bool.false_and, Bool.and_false, Bool.true_or, Bool.or_true, Bool.false_or, Bool.or_false, beq_self_eq_true, eq_self, isWord, e, isName, isNameS, ix_str hl, g.hle, g.hkw, hc, c_nin_tup (show pl 40 (.str (c :: s)) = true from rfl) pk_kw, any_kw, Nat.reduceBEq, Int.reduceBEq, String.reduceBEq, String.reduceEq, Nat.reduceEqDiff, reduceCtorEq, Int.reduceNeg, Int.reduceLT, Int.reduceLE, Int.reduceEq, Int.reduceAdd, Int.reduceSub, Nat.reduceLT, Nat.reduceLeDiff, Nat.reduceAdd, Nat.reduceSub, Nat.reduceEqDiff]
        · simp (config := {implicitDefEqProofs := false}) only [evSs_nil, nx_nx, nx_rt, evS.eq_1, evS.eq_2, evS.eq_3, evS.eq_4, evS.eq_5, evS.eq_6, evS.eq_7, evS_for, evS.eq_9, evS.eq_10, evS.eq_11, evS.eq_12, evS.eq_13, evS.eq_14, evE, evEs, evO, evC, evI, R.bind_ok, R.bind_exc, R.q_ok, R.q_exc, R.of_some, R.nox_ok, Q.bind_nx, Q.bind_rt, Q.bind_bk, Q.bind_ct, Q.bind_exc, fin_rt, fin_nx, fin_exc, List.getElem?_cons_zero, List.getElem?_cons_succ, List.set_cons_zero, List.set_cons_succ, asgT, asgTs, lstOf, wipeS, srcOf, if_true, if_false, Bool.false_eq_true, Bool.true_eq_false, Bool.not_true, Bool.not_false, decide_true, decide_false, t_bl, t_int, t_non, t_tup, t_lst, c_lt, c_le, c_gt, c_ge, c_eqi, c_nei, c_eqs, c_nes, c_isN, c_isnN, c_isB, c_isnB, b_add, b_sub, ix_tup, ix_frz, ix_scr, at0, at1, isTys_nil, isTys_cons, ty_int_non, ty_int_bl, ty_int_int, ty_int_str, ty_int_tup, ty_int_lst, ty_int_dic, ty_bool_non, ty_bool_bl, ty_bool_int, ty_bool_str, ty_bool_tup, ty_bool_lst, ty_bool_dic, ty_str_non, ty_str_bl, ty_str_int, ty_str_str, ty_str_tup, ty_str_lst, ty_str_dic, ty_tuple_non, ty_tuple_bl, ty_tuple_int, ty_tuple_str, ty_tuple_tup, ty_tuple_lst, ty_tuple_dic, ty_list_non, ty_list_bl, ty_list_int, ty_list_str, ty_list_tup, ty_list_lst, ty_list_dic, ty_dict_non, ty_dict_bl, ty_dict_int, ty_dict_str, ty_dict_tup, ty_dict_lst, ty_dict_dic, ty_err_exn, ty_own_exn, bi_len_scr, bi_len_tup, bi_len_lst, bi_tuple_lst, bi_tuple_tup, bi_list_lst, bi_list_tup, bi_max, bi_min, mt_append, mt_part, mt_split, mt_splitN, mt_join, sl_tup, sl_lst, seqV, end_raw, Option.bind_some, Option.map_some, chk_nil, List.append_nil, okR_ok, okQ_ok, c_ins, c_nins, Int.cast_ofNat_Int, List.length_cons, List.length_nil, List.cons.injEq, and_self, and_true, true_and, and_false, false_and, Nat.zero_add, not_true_eq_false, not_false_eq_true, Bool.true_and, Bool.and_true, Bool.false_and, Bool.and_false, Bool.true_or, Bool.or_true, Bool.false_or, Bool.or_false, beq_self_eq_true, eq_self, isWord, e, isName, isNameS, ix_str hl, g.hle, g.hkw, hc, Nat.reduceBEq, Int.reduceBEq, String.reduceBEq, String.reduceEq, Nat.reduceEqDiff, reduceCtorEq, Int.reduceNeg, Int.reduceLT, Int.reduceLE, Int.reduceEq, Int.reduceAdd, Int.reduceSub, Nat.reduceLT, Nat.reduceLeDiff, Nat.reduceAdd, Nat.reduceSub, Nat.reduceEqDiff]
  | _ => simp (config := {implicitDefEqProofs := false}) only [evSs_nil, nx_nx, nx_rt, evS.eq_1, evS.eq_2, evS.eq_3, evS.eq_4, evS.eq_5, evS.eq_6, evS.eq_7, evS_for, evS.eq_9, evS.eq_10, evS.eq_11, evS.eq_12, evS.eq_13, evS.eq_14, evE, evEs, evO, evC, evI, R.bind_ok, R.bind_exc, R.q_ok, R.q_exc, R.of_some, R.nox_ok, Q.bind_nx, Q.bind_rt, Q.bind_bk, Q.bind_ct, Q.bind_exc, fin_rt, fin_nx, fin_exc, List.getElem?_cons_zero, List.getElem?_cons_succ, List.set_cons_zero, List.set_cons_succ, asgT, asgTs, lstOf, wipeS, srcOf, if_true, if_false, Bool.false_eq_true, Bool.true_eq_false, Bool.not_true, Bool.not_false, decide_true, decide_false, t_bl, t_int, t_non, t_tup, t_lst, c_lt, c_le, c_gt, c_ge, c_eqi, c_nei, c_eqs, c_nes, c_isN, c_isnN, c_isB, c_isnB, b_add, b_sub, ix_tup, ix_frz, ix_scr, at0, at1, isTys_nil, isTys_cons, ty_int_non, ty_int_bl, ty_int_int, ty_int_str, ty_int_tup, ty_int_lst, ty_int_dic, ty_bool_non, ty_bool_bl, ty_bool_int, ty_bool_str, ty_bool_tup, ty_bool_lst, ty_bool_dic, ty_str_non, ty_str_bl, ty_str_int, ty_str_str, ty_str_tup, ty_str_lst, ty_str_dic, ty_tuple_non, ty_tuple_bl, ty_tuple_int, ty_tuple_str, ty_tuple_tup, ty_tuple_lst, ty_tuple_dic, ty_list_non, ty_list_bl, ty_list_int, ty_list_str, ty_list_tup, ty_list_lst, ty_list_dic, ty_dict_non, ty_dict_bl, ty_dict_int, ty_dict_str, ty_dict_tup, ty_dict_lst, ty_dict_dic, ty_err_exn, ty_own_exn, bi_len_scr, bi_len_tup, bi_len_lst, bi_tuple_lst, bi_tuple_tup, bi_list_lst, bi_list_tup, bi_max, bi_min, mt_append, mt_part, mt_split, mt_splitN, mt_join, sl_tup, sl_lst, seqV, end_raw, Option.bind_some, Option.map_some, chk_nil, List.append_nil, okR_ok, okQ_ok, c_ins, c_nins, Int.cast_ofNat_Int, List.length_cons, List.length_nil, List.cons.injEq, and_self, and_true, true_and, and_false, false_and, Nat.zero_add, not_true_eq_false, not_false_eq_true, Bool.true_and, Bool.and_true, Bool.false_and, Bool.and_false, Bool.true_or, Bool.or_true, Bool.false_or, Bool.or_false, beq_self_eq_true, eq_self, isWord, isName, Nat.reduceBEq, Int.reduceBEq, String.reduceBEq, String.reduceEq, Nat.reduceEqDiff, reduceCtorEq, Int.reduceNeg, Int.reduceLT, Int.reduceLE, Int.reduceEq, Int.reduceAdd, Int.reduceSub, Nat.reduceLT, Nat.reduceLeDiff, Nat.reduceAdd, Nat.reduceSub, Nat.reduceEqDiff]
theorem num_ok (hm : 2 ≤ m) (hF : Fs[f]? = some (Fnum fw md di)) (hW : Fs[fw]? = some (Fword kw le di ml)) (g : GW G kw le di ml) (hmd : G.gls[md]? = some (.int 4)) {d : D} (hd : tm d = true) (hs : shS lim d = true) (h : Hs) : callN G Fs m f [d] h = .ok (numD d) h := by
  obtain ⟨n, rfl⟩ : ∃ n, m = n + 1 := ⟨m - 1, by omega⟩
  rw [callN_eq hF rfl]
  cases d with
  | str s =>
    have hl : s.length < lim := of_decide_eq_true hs
    have hl2 : s.length ≤ lim := Nat.le_of_lt hl
    have e4 : (4 : Int) < (s.length : Nat) ↔ ¬ s.length ≤ 4 := by omega
    simp (config := {implicitDefEqProofs := false}) only [evSs_nil, nx_nx, nx_rt, evS.eq_1, evS.eq_2, evS.eq_3, evS.eq_4, evS.eq_5, evS.eq_6, evS.eq_7, evS_for, evS.eq_9, evS.eq_10, evS.eq_11, evS.eq_12, evS.eq_13, evS.eq_14, evE, evEs, evO, evC, evI, R.bind_ok, R.bind_exc, R.q_ok, R.q_exc, R.of_some, R.nox_ok, Q.bind_nx, Q.bind_rt, Q.bind_bk, Q.bind_ct, Q.bind_exc, fin_rt, fin_nx, fin_exc, List.getElem?_cons_zero, List.getElem?_cons_succ, List.set_cons_zero, List.set_cons_succ, asgT, asgTs, lstOf, wipeS, srcOf, if_true, if_false, Bool.false_eq_true, Bool.true_eq_false, Bool.not_true, Bool.not_false, decide_true, decide_false, t_bl, t_int, t_non, t_tup, t_lst, c_lt, c_le, c_gt, c_ge, c_eqi, c_nei, c_eqs, c_nes, c_isN, c_isnN, c_isB, c_isnB, b_add, b_sub, ix_tup, ix_frz, ix_scr, at0, at1, isTys_nil, isTys_cons, ty_int_non, ty_int_bl, ty_int_int, ty_int_str, ty_int_tup, ty_int_lst, ty_int_dic, ty_bool_non, ty_bool_bl, ty_bool_int, ty_bool_str, ty_bool_tup, ty_bool_lst, ty_bool_dic, ty_str_non, ty_str_bl, ty_str_int, ty_str_str, ty_str_tup, ty_str_lst, ty_str_dic, ty_tuple_non, ty_tuple_bl, ty_tuple_int, ty_tuple_str, ty_tuple_tup, ty_tuple_lst, ty_tuple_dic, ty_list_non, ty_list_bl, ty_list_int, ty_list_str, ty_list_tup, ty_list_lst, ty_list_dic, ty_dict_non, ty_dict_bl, ty_dict_int, ty_dict_str, ty_dict_tup, ty_dict_lst, ty_dict_dic, ty_err_exn, ty_own_exn, bi_len_scr, bi_len_tup, bi_len_lst, bi_tuple_lst, bi_tuple_tup, bi_list_lst, bi_list_tup, bi_max, bi_min, mt_append, mt_part, mt_split, mt_splitN, mt_join, sl_tup, sl_lst, seqV, end_raw, Option.bind_some, Option.map_some, chk_nil, List.append_nil, okR_ok, okQ_ok, c_ins, c_nins, Int.cast_ofNat_Int, List.length_cons, List.length_nil, List.cons.injEq, and_self, and_true, true_and, and_false, false_and, Nat.zero_add, not_true_eq_false, not_false_eq_true, Bool.true_and, Bool.and_true, Bool.false_and, Bool.and_false, Bool.true_or, Bool.or_true, Bool.false_or, Bool.or_false, beq_self_eq_true, eq_self, evSs, Fnum, List.map_cons, List.map_nil, List.replicate, List.cons_append, List.nil_append, word_ok (show 1 ≤ n by omega) hW g hd hs, end_pure0 (show pl 40 (.bl (isWord (.str s))) = true from rfl), Nat.reduceBEq, Int.reduceBEq, String.reduceBEq, String.reduceEq, Nat.reduceEqDiff, reduceCtorEq, Int.reduceNeg, Int.reduceLT, Int.reduceLE, Int.reduceEq, Int.reduceAdd, Int.reduceSub, Nat.reduceLT, Nat.reduceLeDiff, Nat.reduceAdd, Nat.reduceSub, Nat.reduceEqDiff]
    cases e : isWordS s with
    | false => simp (config := {implicitDefEqProofs := false}) only [evSs_nil, nx_nx, nx_rt, evS.eq_1, evS.eq_2, evS.eq_3, evS.eq_4, evS.eq_5, evS.eq_6, evS.eq_7, evS_for, evS.eq_9, evS.eq_10, evS.eq_11, evS.eq_12, evS.eq_13, evS.eq_14, evE, evEs, evO, evC, evI, R.bind_ok, R.bind_exc, R.q_ok, R.q_exc, R.of_some, R.nox_ok, Q.bind_nx, Q.bind_rt, Q.bind_bk, Q.bind_ct, Q.bind_exc, fin_rt, fin_nx, fin_exc, List.getElem?_cons_zero, List.getElem?_cons_succ, List.set_cons_zero, List.set_cons_succ, asgT, asgTs, lstOf, wipeS, srcOf, if_true, if_false, Bool.false_eq_true, Bool.true_eq_false, Bool.not_true, Bool.not_false, decide_true, decide_false, t_bl, t_int, t_non, t_tup, t_lst, c_lt, c_le, c_gt, c_ge, c_eqi, c_nei, c_eqs, c_nes, c_isN, c_isnN, c_isB, c_isnB, b_add, b_sub, ix_tup, ix_frz, ix_scr, at0, at1, isTys_nil, isTys_cons, ty_int_non, ty_int_bl, ty_int_int, ty_int_str, ty_int_tup, ty_int_lst, ty_int_dic, ty_bool_non, ty_bool_bl, ty_bool_int, ty_bool_str, ty_bool_tup, ty_bool_lst, ty_bool_dic, ty_str_non, ty_str_bl, ty_str_int, ty_str_str, ty_str_tup, ty_str_lst, ty_str_dic, ty_tuple_non, ty_tuple_bl, ty_tuple_int, ty_tuple_str, ty_tuple_tup, ty_tuple_lst, ty_tuple_dic, ty_list_non, ty_list_bl, ty_list_int, ty_list_str, ty_list_tup, ty_list_lst, ty_list_dic, ty_dict_non, ty_dict_bl, ty_dict_int, ty_dict_str, ty_dict_tup, ty_dict_lst, ty_dict_dic, ty_err_exn, ty_own_exn, bi_len_scr, bi_len_tup, bi_len_lst, bi_tuple_lst, bi_tuple_tup, bi_list_lst, bi_list_tup, bi_max, bi_min, mt_append, mt_part, mt_split, mt_splitN, mt_join, sl_tup, sl_lst, seqV, end_raw, Option.bind_some, Option.map_some, chk_nil, List.append_nil, okR_ok, okQ_ok, c_ins, c_nins, Int.cast_ofNat_Int, List.length_cons, List.length_nil, List.cons.injEq, and_self, and_true, true_and, and_false, false_and, Nat.zero_add, not_true_eq_false, not_false_eq_true, Bool.true_and, Bool.and_true, Bool.false_and, Bool.and_false, Bool.true_or, Bool.or_true, Bool.false_or, Bool.or_false, beq_self_eq_true, eq_self, evSs, isWord, e, numD, numS, Nat.reduceBEq, Int.reduceBEq, String.reduceBEq, String.reduceEq, Nat.reduceEqDiff, reduceCtorEq, Int.reduceNeg, Int.reduceLT, Int.reduceLE, Int.reduceEq, Int.reduceAdd, Int.reduceSub, Nat.reduceLT, Nat.reduceLeDiff, Nat.reduceAdd, Nat.reduceSub, Nat.reduceEqDiff]
    | true =>
      simp (config := {implicitDefEqProofs := false}) only [evSs_nil, nx_nx, nx_rt, evS.eq_1, evS.eq_2, evS.eq_3, evS.eq_4, evS.eq_5, evS.eq_6, evS.eq_7, evS_for, evS.eq_9, evS.eq_10, evS.eq_11, evS.eq_12, evS.eq_13, evS.eq_14, evE, evEs, evO, evC, evI, R.bind_ok, R.bind_exc, R.q_ok, R.q_exc, R.of_some, R.nox_ok, Q.bind_nx, Q.bind_rt, Q.bind_bk, Q.bind_ct, Q.bind_exc, fin_rt, fin_nx, fin_exc, List.getElem?_cons_zero, List.getElem?_cons_succ, List.set_cons_zero, List.set_cons_succ, asgT, asgTs, lstOf, wipeS, srcOf, if_true, if_false, Bool.false_eq_true, Bool.true_eq_false, Bool.not_true, Bool.not_false, decide_true, decide_false, t_bl, t_int, t_non, t_tup, t_lst, c_lt, c_le, c_gt, c_ge, c_eqi, c_nei, c_eqs, c_nes, c_isN, c_isnN, c_isB, c_isnB, b_add, b_sub, ix_tup, ix_frz, ix_scr, at0, at1, isTys_nil, isTys_cons, ty_int_non, ty_int_bl, ty_int_int, ty_int_str, ty_int_tup, ty_int_lst, ty_int_dic, ty_bool_non, ty_bool_bl, ty_bool_int, ty_bool_str, ty_bool_tup, ty_bool_lst, ty_bool_dic, ty_str_non, ty_str_bl, ty_str_int, ty_str_str, ty_str_tup, ty_str_lst, ty_str_dic, ty_tuple_non, ty_tuple_bl, ty_tuple_int, ty_tuple_str, ty_tuple_tup, ty_tuple_lst, ty_tuple_dic, ty_list_non, ty_list_bl, ty_list_int, ty_list_str, ty_list_tup, ty_list_lst, ty_list_dic, ty_dict_non, ty_dict_bl, ty_dict_int, ty_dict_str, ty_dict_tup, ty_dict_lst, ty_dict_dic, ty_err_exn, ty_own_exn, bi_len_scr, bi_len_tup, bi_len_lst, bi_tuple_lst, bi_tuple_tup, bi_list_lst, bi_list_tup, bi_max, bi_min, mt_append, mt_part, mt_split, mt_splitN, mt_join, sl_tup, sl_lst, seqV, end_raw, Option.bind_some, Option.map_some, chk_nil, List.append_nil, okR_ok, okQ_ok, c_ins, c_nins, Int.cast_ofNat_Int, List.length_cons, List.length_nil, List.cons.injEq, and_self, and_true, true_and, and_false, false_and, Nat.zero_add, not_true_eq_false, not_false_eq_true, Bool.true_and, Bool.and_true, Bool.false_and, Bool.and_false, Bool.true_or, Bool.or_true, Bool.false_or, Bool.or_false, beq_self_eq_true, eq_self, evSs, isWord, e, bi_len_str hl2, hmd, e4, numD, numS, Nat.reduceBEq, Int.reduceBEq, String.reduceBEq, String.reduceEq, Nat.reduceEqDiff, reduceCtorEq, Int.reduceNeg, Int.reduceLT, Int.reduceLE, Int.reduceEq, Int.reduceAdd, Int.reduceSub, Nat.reduceLT, Nat.reduceLeDiff, Nat.reduceAdd, Nat.reduceSub, Nat.reduceEqDiff]
      by_cases h4 : s.length ≤ 4
      · simp (config := {implicitDefEqProofs := false}) only [evSs_nil, nx_nx, nx_rt, evS.eq_1, evS.eq_2, evS.eq_3, evS.eq_4, evS.eq_5, evS.eq_6, evS.eq_7, evS_for, evS.eq_9, evS.eq_10, evS.eq_11, evS.eq_12, evS.eq_13, evS.eq_14, evE, evEs, evO, evC, evI, R.bind_ok, R.bind_exc, R.q_ok, R.q_exc, R.of_some, R.nox_ok, Q.bind_nx, Q.bind_rt, Q.bind_bk, Q.bind_ct, Q.bind_exc, fin_rt, fin_nx, fin_exc, List.getElem?_cons_zero, List.getElem?_cons_succ, List.set_cons_zero, List.set_cons_succ, asgT, asgTs, lstOf, wipeS, srcOf, if_true, if_false, Bool.false_eq_true, Bool.true_eq_false, Bool.not_true, Bool.not_false, decide_true, decide_false, t_bl, t_int, t_non, t_tup, t_lst, c_lt, c_le, c_gt, c_ge, c_eqi, c_nei, c_eqs, c_nes, c_isN, c_isnN, c_isB, c_isnB, b_add, b_sub, ix_tup, ix_frz, ix_scr, at0, at1, isTys_nil, isTys_cons, ty_int_non, ty_int_bl, ty_int_int, ty_int_str, ty_int_tup, ty_int_lst, ty_int_dic, ty_bool_non, ty_bool_bl, ty_bool_int, ty_bool_str, ty_bool_tup, ty_bool_lst, ty_bool_dic, ty_str_non, ty_str_bl, ty_str_int, ty_str_str, ty_str_tup, ty_str_lst, ty_str_dic, ty_tuple_non, ty_tuple_bl, ty_tuple_int, ty_tuple_str, ty_tuple_tup, ty_tuple_lst, ty_tuple_dic, ty_list_non, ty_list_bl, ty_list_int, ty_list_str, ty_list_tup, ty_list_lst, ty_list_dic, ty_dict_non, ty_dict_bl, ty_dict_int, ty_dict_str, ty_dict_tup, ty_dict_lst, ty_dict_dic, ty_err_exn, ty_own_exn, bi_len_scr, bi_len_tup, bi_len_lst, bi_tuple_lst, bi_tuple_tup, bi_list_lst, bi_list_tup, bi_max, bi_min, mt_append, mt_part, mt_split, mt_splitN, mt_join, sl_tup, sl_lst, seqV, end_raw, Option.bind_some, Option.map_some, chk_nil, List.append_nil, okR_ok, okQ_ok, c_ins, c_nins, Int.cast_ofNat_Int, List.length_cons, List.length_nil, List.cons.injEq, and_self, and_true, true_and, and_false, false_and, Nat.zero_add, not_true_eq_false, not_false_eq_true, Bool.true_and, Bool.and_true, Bool.false_and, Bool.and_false, Bool.true_or, Bool.or_true, Bool.false_or, Bool.or_false, beq_self_eq_true, eq_self, evSs, h4, List.length_map, hl, g.hdi, Nat.reduceBEq, Int.reduceBEq, String.reduceBEq, String.reduceEq, Nat.reduceEqDiff, reduceCtorEq, Int.reduceNeg, Int.reduceLT, Int.reduceLE, Int.reduceEq, Int.reduceAdd, Int.reduceSub, Nat.reduceLT, Nat.reduceLeDiff, Nat.reduceAdd, Nat.reduceSub, Nat.reduceEqDiff]
        rw [mapR_mapL (fun c : Nat => D.str [c]) (fun c => D.bl (decide (c ∈ digs))) rfl (fun a _ => by simp (config := {implicitDefEqProofs := false}) only [evSs_nil, nx_nx, nx_rt, evS.eq_1, evS.eq_2, evS.eq_3, evS.eq_4, evS.eq_5, evS.eq_6, evS.eq_7, evS_for, evS.eq_9, evS.eq_10, evS.eq_11, evS.eq_12, evS.eq_13, evS.eq_14, evE, evEs, evO, evC, evI, R.bind_ok, R.bind_exc, R.q_ok, R.q_exc, R.of_some, R.nox_ok, Q.bind_nx, Q.bind_rt, Q.bind_bk, Q.bind_ct, Q.bind_exc, fin_rt, fin_nx, fin_exc, List.getElem?_cons_zero, List.getElem?_cons_succ, List.set_cons_zero, List.set_cons_succ, asgT, asgTs, lstOf, wipeS, srcOf, if_true, if_false, Bool.false_eq_true, Bool.true_eq_false, Bool.not_true, Bool.not_false, decide_true, decide_false, t_bl, t_int, t_non, t_tup, t_lst, c_lt, c_le, c_gt, c_ge, c_eqi, c_nei, c_eqs, c_nes, c_isN, c_isnN, c_isB, c_isnB, b_add, b_sub, ix_tup, ix_frz, ix_scr, at0, at1, isTys_nil, isTys_cons, ty_int_non, ty_int_bl, ty_int_int, ty_int_str, ty_int_tup, ty_int_lst, ty_int_dic, ty_bool_non, ty_bool_bl, ty_bool_int, ty_bool_str, ty_bool_tup, ty_bool_lst, ty_bool_dic, ty_str_non, ty_str_bl, ty_str_int, ty_str_str, ty_str_tup, ty_str_lst, ty_str_dic, ty_tuple_non, ty_tuple_bl, ty_tuple_int, ty_tuple_str, ty_tuple_tup, ty_tuple_lst, ty_tuple_dic, ty_list_non, ty_list_bl, ty_list_int, ty_list_str, ty_list_tup, ty_list_lst, ty_list_dic, ty_dict_non, ty_dict_bl, ty_dict_int, ty_dict_str, ty_dict_tup, ty_dict_lst, ty_dict_dic, ty_err_exn, ty_own_exn, bi_len_scr, bi_len_tup, bi_len_lst, bi_tuple_lst, bi_tuple_tup, bi_list_lst, bi_list_tup, bi_max, bi_min, mt_append, mt_part, mt_split, mt_splitN, mt_join, sl_tup, sl_lst, seqV, end_raw, Option.bind_some, Option.map_some, chk_nil, List.append_nil, okR_ok, okQ_ok, c_ins, c_nins, Int.cast_ofNat_Int, List.length_cons, List.length_nil, List.cons.injEq, and_self, and_true, true_and, and_false, false_and, Nat.zero_add, not_true_eq_false, not_false_eq_true, Bool.true_and, Bool.and_true, Bool.false_and, Bool.and_false, Bool.true_or, Bool.or_true, Bool.false_or, Bool.or_false, beq_self_eq_true, eq_self, Nat.reduceBEq, Int.reduceBEq, String.reduceBEq, String.reduceEq, Nat.reduceEqDiff, reduceCtorEq, Int.reduceNeg, Int.reduceLT, Int.reduceLE, Int.reduceEq, Int.reduceAdd, Int.reduceSub, Nat.reduceLT, Nat.reduceLeDiff, Nat.reduceAdd, Nat.reduceSub, Nat.reduceEqDiff])]
        simp (config := {implicitDefEqProofs := false}) only [evSs_nil, nx_nx, nx_rt, evS.eq_1, evS.eq_2, evS.eq_3, evS.eq_4, evS.eq_5, evS.eq_6, evS.eq_7, evS_for, evS.eq_9, evS.eq_10, evS.eq_11, evS.eq_12, evS.eq_13, evS.eq_14, evE, evEs, evO, evC, evI, R.bind_ok, R.bind_exc, R.q_ok, R.q_exc, R.of_some, R.nox_ok, Q.bind_nx, Q.bind_rt, Q.bind_bk, Q.bind_ct, Q.bind_exc, fin_rt, fin_nx, fin_exc, List.getElem?_cons_zero, List.getElem?_cons_succ, List.set_cons_zero, List.set_cons_succ, asgT, asgTs, lstOf, wipeS, srcOf, if_true, if_false, Bool.false_eq_true, Bool.true_eq_false, Bool.not_true, Bool.not_false, decide_true, decide_false, t_bl, t_int, t_non, t_tup, t_lst, c_lt, c_le, c_gt, c_ge, c_eqi, c_nei, c_eqs, c_nes, c_isN, c_isnN, c_isB, c_isnB, b_add, b_sub, ix_tup, ix_frz, ix_scr, at0, at1, isTys_nil, isTys_cons, ty_int_non, ty_int_bl, ty_int_int, ty_int_str, ty_int_tup, ty_int_lst, ty_int_dic, ty_bool_non, ty_bool_bl, ty_bool_int, ty_bool_str, ty_bool_tup, ty_bool_lst, ty_bool_dic, ty_str_non, ty_str_bl, ty_str_int, ty_str_str, ty_str_tup, ty_str_lst, ty_str_dic, ty_tuple_non, ty_tuple_bl, ty_tuple_int, ty_tuple_str, ty_tuple_tup, ty_tuple_lst, ty_tuple_dic, ty_list_non, ty_list_bl, ty_list_int, ty_list_str, ty_list_tup, ty_list_lst, ty_list_dic, ty_dict_non, ty_dict_bl, ty_dict_int, ty_dict_str, ty_dict_tup, ty_dict_lst, ty_dict_dic, ty_err_exn, ty_own_exn, bi_len_scr, bi_len_tup, bi_len_lst, bi_tuple_lst, bi_tuple_tup, bi_list_lst, bi_list_tup, bi_max, bi_min, mt_append, mt_part, mt_split, mt_splitN, mt_join, sl_tup, sl_lst, seqV, end_raw, Option.bind_some, Option.map_some, chk_nil, List.append_nil, okR_ok, okQ_ok, c_ins, c_nins, Int.cast_ofNat_Int, List.length_cons, List.length_nil, List.cons.injEq, and_self, and_true, true_and, and_false, false_and, Nat.zero_add, not_true_eq_false, not_false_eq_true, Bool.true_and, Bool.and_true, Bool.false_and, Bool.and_false, Bool.true_or, Bool.or_true, Bool.false_or, Bool.or_false, beq_self_eq_true, eq_self, evSs, bi_all, Nat.reduceBEq, Int.reduceBEq, String.reduceBEq, String.reduceEq, Nat.reduceEqDiff, reduceCtorEq, Int.reduceNeg, Int.reduceLT, Int.reduceLE, Int.reduceEq, Int.reduceAdd, Int.reduceSub, Nat.reduceLT, Nat.reduceLeDiff, Nat.reduceAdd, Nat.reduceSub, Nat.reduceEqDiff]
        cases ed : s.all (fun c => decide (c ∈ digs)) with
        | false => simp (config := {implicitDefEqProofs := false}) only [evSs_nil, nx_nx, nx_rt, evS.eq_1, evS.eq_2, evS.eq_3, evS.eq_4, evS.eq_5, evS.eq_6, evS.eq_7, evS_for, evS.eq_9, evS.eq_10, evS.eq_11, evS.eq_12, evS.eq_13, evS.eq_14, evE, evEs, evO, evC, evI, R.bind_ok, R.bind_exc, R.q_ok, R.q_exc, R.of_some, R.nox_ok, Q.bind_nx, Q.bind_rt, Q.bind_bk, Q.bind_ct, Q.bind_exc, fin_rt, fin_nx, fin_exc, List.getElem?_cons_zero, List.getElem?_cons_succ, List.set_cons_zero, List.set_cons_succ, asgT, asgTs, lstOf, wipeS, srcOf, if_true, if_false, Bool.false_eq_true, Bool.true_eq_false, Bool.not_true, Bool.not_false, decide_true, decide_false, t_bl, t_int, t_non, t_tup, t_lst, c_lt, c_le, c_gt, c_ge, c_eqi, c_nei, c_eqs, c_nes, c_isN, c_isnN, c_isB, c_isnB, b_add, b_sub, ix_tup, ix_frz, ix_scr, at0, at1, isTys_nil, isTys_cons, ty_int_non, ty_int_bl, ty_int_int, ty_int_str, ty_int_tup, ty_int_lst, ty_int_dic, ty_bool_non, ty_bool_bl, ty_bool_int, ty_bool_str, ty_bool_tup, ty_bool_lst, ty_bool_dic, ty_str_non, ty_str_bl, ty_str_int, ty_str_str, ty_str_tup, ty_str_lst, ty_str_dic, ty_tuple_non, ty_tuple_bl, ty_tuple_int, ty_tuple_str, ty_tuple_tup, ty_tuple_lst, ty_tuple_dic, ty_list_non, ty_list_bl, ty_list_int, ty_list_str, ty_list_tup, ty_list_lst, ty_list_dic, ty_dict_non, ty_dict_bl, ty_dict_int, ty_dict_str, ty_dict_tup, ty_dict_lst, ty_dict_dic, ty_err_exn, ty_own_exn, bi_len_scr, bi_len_tup, bi_len_lst, bi_tuple_lst, bi_tuple_tup, bi_list_lst, bi_list_tup, bi_max, bi_min, mt_append, mt_part, mt_split, mt_splitN, mt_join, sl_tup, sl_lst, seqV, end_raw, Option.bind_some, Option.map_some, chk_nil, List.append_nil, okR_ok, okQ_ok, c_ins, c_nins, Int.cast_ofNat_Int, List.length_cons, List.length_nil, List.cons.injEq, and_self, and_true, true_and, and_false, false_and, Nat.zero_add, not_true_eq_false, not_false_eq_true, Bool.true_and, Bool.and_true, Bool.false_and, Bool.and_false, Bool.true_or, Bool.or_true, Bool.false_or, Bool.or_false, beq_self_eq_true, eq_self, evSs, Nat.reduceBEq, Int.reduceBEq, String.reduceBEq, String.reduceEq, Nat.reduceEqDiff, reduceCtorEq, Int.reduceNeg, Int.reduceLT, Int.reduceLE, Int.reduceEq, Int.reduceAdd, Int.reduceSub, Nat.reduceLT, Nat.reduceLeDiff, Nat.reduceAdd, Nat.reduceSub, Nat.reduceEqDiff]
        | true =>
          have ei : ∀ h, biD .int false [.str s] h = .ok (.int (natOf s 0)) h := fun h => if_pos ⟨digs_digit ed, by intro z; rw [z] at e; exact absurd e (by decide), by omega⟩
          rcases s with _ | ⟨c, _ | ⟨c2, s⟩⟩
          · exact absurd e (by decide)
          · simp (config := {implicitDefEqProofs := false}) only [evSs_nil, nx_nx, nx_rt, evS.eq_1, evS.eq_2, evS.eq_3, evS.eq_4, evS.eq_5, evS.eq_6, evS.eq_7, evS_for, evS.eq_9, evS.eq_10, evS.eq_11, evS.eq_12, evS.eq_13, evS.eq_14, evE, evEs, evO, evC, evI, R.bind_ok, R.bind_exc, R.q_ok, R.q_exc, R.of_some, R.nox_ok, Q.bind_nx, Q.bind_rt, Q.bind_bk, Q.bind_ct, Q.bind_exc, fin_rt, fin_nx, fin_exc, List.getElem?_cons_zero, List.getElem?_cons_succ, List.set_cons_zero, List.set_cons_succ, asgT, asgTs, lstOf, wipeS, srcOf, if_true, if_false, Bool.false_eq_true, Bool.true_eq_false, Bool.not_true, Bool.not_false, decide_true, decide_false, t_bl, t_int, t_non, t_tup, t_lst, c_lt, c_le, c_gt, c_ge, c_eqi, c_nei, c_eqs, c_nes, c_isN, c_isnN, c_isB, c_isnB, b_add, b_sub, ix_tup, ix_frz, ix_scr, at0, at1, isTys_nil, isTys_cons, ty_int_non, ty_int_bl, ty_int_int, ty_int_str, ty_int_tup, ty_int_lst, ty_int_dic, ty_bool_non, ty_bool_bl, ty_bool_int, ty_bool_str, ty_bool_tup, ty_bool_lst, ty_bool_dic, ty_str_non, ty_str_bl, ty_str_int, ty_str_str, ty_str_tup, ty_str_lst, ty_str_dic, ty_tuple_non, ty_tuple_bl, ty_tuple_int, ty_tuple_str, ty_tuple_tup, ty_tuple_lst, ty_tuple_dic, ty_list_non, ty_list_bl, ty_list_int, ty_list_str, ty_list_tup, ty_list_lst, ty_list_dic, ty_dict_non, ty_dict_bl, ty_dict_int, ty_dict_str, ty_dict_tup, ty_dict_lst, ty_dict_dic, ty_err_exn, ty_own_exn, bi_len_scr, bi_len_tup, bi_len_lst, bi_tuple_lst, bi_tuple_tup, bi_list_lst, bi_list_tup, bi_max, bi_min, mt_append, mt_part, mt_split, mt_splitN, mt_join, sl_tup, sl_lst, seqV, end_raw, Option.bind_some, Option.map_some, chk_nil, List.append_nil, okR_ok, okQ_ok, c_ins, c_nins, Int.cast_ofNat_Int, List.length_cons, List.length_nil, List.cons.injEq, and_self, and_true, true_and, and_false, false_and, Nat.zero_add, not_true_eq_false, not_false_eq_true, Bool.true_and, Bool.and_true, Bool.false_and, Bool.and_false, Bool.true_or, Bool.or_true, Bool.false_or, Bool.or_false, beq_self_eq_true, eq_self, evSs, ei, bi_len_str hl2, Nat.reduceBEq, Int.reduceBEq, String.reduceBEq, String.reduceEq, Nat.reduceEqDiff, reduceCtorEq, Int.reduceNeg, Int.reduceLT, Int.reduceLE, Int.reduceEq, Int.reduceAdd, Int.reduceSub, Nat.reduceLT, Nat.reduceLeDiff, Nat.reduceAdd, Nat.reduceSub, Nat.reduceEqDiff]
          · have e1 : (1 : Int) < ((c2 :: s).length + 1 : Nat) := by simp only [List.length_cons]; omega
            simp only [List.length_cons] at e1
            by_cases hc : c = 48
            · subst hc
              simp (config := {implicitDefEqProofs := false}) only [evSs_nil, nx_nx, nx_rt, evS.eq_1, evS.eq_2, evS.eq_3, evS.eq_4, evS.eq_5, evS.eq_6, evS.eq_7, evS_for, evS.eq_9, evS.eq_10, evS.eq_11, evS.eq_12, evS.eq_13, evS.eq_14, evE, evEs, evO, evC, evI, R.bind_ok, R.bind_exc, R.q_ok, R.q_exc, R.of_some, R.nox_ok, Q.bind_nx, Q.bind_rt, Q.bind_bk, Q.bind_ct, Q.bind_exc, fin_rt, fin_nx, fin_exc, List.getElem?_cons_zero, List.getElem?_cons_succ, List.set_cons_zero, List.set_cons_succ, asgT, asgTs, lstOf, wipeS, srcOf, if_true, if_false, Bool.false_eq_true, Bool.true_eq_false, Bool.not_true, Bool.not_false, decide_true, decide_false, t_bl, t_int, t_non, t_tup, t_lst, c_lt, c_le, c_gt, c_ge, c_eqi, c_nei, c_eqs, c_nes, c_isN, c_isnN, c_isB, c_isnB, b_add, b_sub, ix_tup, ix_frz, ix_scr, at0, at1, isTys_nil, isTys_cons, ty_int_non, ty_int_bl, ty_int_int, ty_int_str, ty_int_tup, ty_int_lst, ty_int_dic, ty_bool_non, ty_bool_bl, ty_bool_int, ty_bool_str, ty_bool_tup, ty_bool_lst, ty_bool_dic, ty_str_non, ty_str_bl, ty_str_int, ty_str_str, ty_str_tup, ty_str_lst, ty_str_dic, ty_tuple_non, ty_tuple_bl, ty_tuple_int, ty_tuple_str, ty_tuple_tup, ty_tuple_lst, ty_tuple_dic, ty_list_non, ty_list_bl, ty_list_int, ty_list_str, ty_list_tup, ty_list_lst, ty_list_dic, ty_dict_non, ty_dict_bl, ty_dict_int, ty_dict_str, ty_dict_tup, ty_dict_lst, ty_dict_dic, ty_err_exn, ty_own_exn, bi_len_scr, bi_len_tup, bi_len_lst, bi_tuple_lst, bi_tuple_tup, bi_list_lst, bi_list_tup, bi_max, bi_min, mt_append, mt_part, mt_split, mt_splitN, mt_join, sl_tup, sl_lst, seqV, end_raw, Option.bind_some, Option.map_some, chk_nil, List.append_nil, okR_ok, okQ_ok, c_ins, c_nins, Int.cast_ofNat_Int, List.length_cons, List.length_nil, List.cons.injEq, and_self, and_true, true_and, and_false, false_and, Nat.zero_add, not_true_eq_false, not_false_eq_true, Bool.true_and, Bool.and_true, Bool.false_and, Bool.and_false, Bool.true_or, Bool.or_true, Bool.false_or, Bool.or_false, beq_self_eq_true, eq_self, evSs, e1, bi_len_str hl2, ix_str hl2, Nat.reduceBEq, Int.reduceBEq, String.reduceBEq, String.reduceEq, Nat.reduceEqDiff, reduceCtorEq, Int.reduceNeg, Int.reduceLT, Int.reduceLE, Int.reduceEq, Int.reduceAdd, Int.reduceSub, Nat.reduceLT, Nat.reduceLeDiff, Nat.reduceAdd, Nat.reduceSub, Nat.reduceEqDiff]
            · simp (config := {implicitDefEqProofs := false}) only [evSs_nil, nx_nx, nx_rt, evS.eq_1, evS.eq_2, evS.eq_3, evS.eq_4, evS.eq_5, evS.eq_6, evS.eq_7, evS_for, evS.eq_9, evS.eq_10, evS.eq_11, evS.eq_12, evS.eq_13, evS.eq_14, evE, evEs, evO, evC, evI, R.bind_ok, R.bind_exc, R.q_ok, R.q_exc, R.of_some, R.nox_ok, Q.bind_nx, Q.bind_rt, Q.bind_bk, Q.bind_ct, Q.bind_exc, fin_rt, fin_nx, fin_exc, List.getElem?_cons_zero, List.getElem?_cons_succ, List.set_cons_zero, List.set_cons_succ, asgT, asgTs, lstOf, wipeS, srcOf, if_true, if_false, Bool.false_eq_true, Bool.true_eq_false, Bool.not_true, Bool.not_false, decide_true, decide_false, t_bl, t_int, t_non, t_tup, t_lst, c_lt, c_le, c_gt, c_ge, c_eqi, c_nei, c_eqs, c_nes, c_isN, c_isnN, c_isB, c_isnB, b_add, b_sub, ix_tup, ix_frz, ix_scr, at0, at1, isTys_nil, isTys_cons, ty_int_non, ty_int_bl, ty_int_int, ty_int_str, ty_int_tup, ty_int_lst, ty_int_dic, ty_bool_non, ty_bool_bl, ty_bool_int, ty_bool_str, ty_bool_tup, ty_bool_lst, ty_bool_dic, ty_str_non, ty_str_bl, ty_str_int, ty_str_str, ty_str_tup, ty_str_lst, ty_str_dic, ty_tuple_non, ty_tuple_bl, ty_tuple_int, ty_tuple_str, ty_tuple_tup, ty_tuple_lst, ty_tuple_dic, ty_list_non, ty_list_bl, ty_list_int, ty_list_str, ty_list_tup, ty_list_lst, ty_list_dic, ty_dict_non, ty_dict_bl, ty_dict_int, ty_dict_str, ty_dict_tup, ty_dict_lst, ty_dict_dic, ty_err_exn, ty_own_exn, bi_len_scr, bi_len_tup, bi_len_lst, bi_tuple_lst, bi_tuple_tup, bi_list_lst, bi_list_tup, bi_max, bi_min, mt_append, mt_part, mt_split, mt_splitN, mt_join, sl_tup, sl_lst, seqV, end_raw, Option.bind_some, Option.map_some, chk_nil, List.append_nil, okR_ok, okQ_ok, c_ins, c_nins, Int.cast_ofNat_Int, List.length_cons, List.length_nil, List.cons.injEq, and_self, and_true, true_and, and_false, false_and, Nat.zero_add, not_true_eq_false, not_false_eq_true, Bool.true_and, Bool.and_true, Bool.false_and, Bool.and_false, Bool.true_or, Bool.or_true, Bool.false_or, Bool.or_false, beq_self_eq_true, eq_self, evSs, e1, bi_len_str hl2, ix_str hl2, hc, ei, Nat.reduceBEq, Int.reduceBEq, String.reduceBEq, String.reduceEq, Nat.reduceEqDiff, reduceCtorEq, Int.reduceNeg, Int.reduceLT, Int.reduceLE, Int.reduceEq, Int.reduceAdd, Int.reduceSub, Nat.reduceLT, Nat.reduceLeDiff, Nat.reduceAdd, Nat.reduceSub, Nat.reduceEqDiff]
              split
              · rename_i z
                cases z
                exact absurd rfl hc
              · rfl
      · simp (config := {implicitDefEqProofs := false}) only [evSs_nil, nx_nx, nx_rt, evS.eq_1, evS.eq_2, evS.eq_3, evS.eq_4, evS.eq_5, evS.eq_6, evS.eq_7, evS_for, evS.eq_9, evS.eq_10, evS.eq_11, evS.eq_12, evS.eq_13, evS.eq_14, evE, evEs, evO, evC, evI, R.bind_ok, R.bind_exc, R.q_ok, R.q_exc, R.of_some, R.nox_ok, Q.bind_nx, Q.bind_rt, Q.bind_bk, Q.bind_ct, Q.bind_exc, fin_rt, fin_nx, fin_exc, List.getElem?_cons_zero, List.getElem?_cons_succ, List.set_cons_zero, List.set_cons_succ, asgT, asgTs, lstOf, wipeS, srcOf, if_true, if_false, Bool.false_eq_true, Bool.true_eq_false, Bool.not_true, Bool.not_false, decide_true, decide_false, t_bl, t_int, t_non, t_tup, t_lst, c_lt, c_le, c_gt, c_ge, c_eqi, c_nei, c_eqs, c_nes, c_isN, c_isnN, c_isB, c_isnB, b_add, b_sub, ix_tup, ix_frz, ix_scr, at0, at1, isTys_nil, isTys_cons, ty_int_non, ty_int_bl, ty_int_int, ty_int_str, ty_int_tup, ty_int_lst, ty_int_dic, ty_bool_non, ty_bool_bl, ty_bool_int, ty_bool_str, ty_bool_tup, ty_bool_lst, ty_bool_dic, ty_str_non, ty_str_bl, ty_str_int, ty_str_str, ty_str_tup, ty_str_lst, ty_str_dic, ty_tuple_non, ty_tuple_bl, ty_tuple_int, ty_tuple_str, ty_tuple_tup, ty_tuple_lst, ty_tuple_dic, ty_list_non, ty_list_bl, ty_list_int, ty_list_str, ty_list_tup, ty_list_lst, ty_list_dic, ty_dict_non, ty_dict_bl, ty_dict_int, ty_dict_str, ty_dict_tup, ty_dict_lst, ty_dict_dic, ty_err_exn, ty_own_exn, bi_len_scr, bi_len_tup, bi_len_lst, bi_tuple_lst, bi_tuple_tup, bi_list_lst, bi_list_tup, bi_max, bi_min, mt_append, mt_part, mt_split, mt_splitN, mt_join, sl_tup, sl_lst, seqV, end_raw, Option.bind_some, Option.map_some, chk_nil, List.append_nil, okR_ok, okQ_ok, c_ins, c_nins, Int.cast_ofNat_Int, List.length_cons, List.length_nil, List.cons.injEq, and_self, and_true, true_and, and_false, false_and, Nat.zero_add, not_true_eq_false, not_false_eq_true, Bool.true_and, Bool.and_true, Bool.false_and, Bool.and_false, Bool.true_or, Bool.or_true, Bool.false_or, Bool.or_false, beq_self_eq_true, eq_self, evSs, h4, Nat.reduceBEq, Int.reduceBEq, String.reduceBEq, String.reduceEq, Nat.reduceEqDiff, reduceCtorEq, Int.reduceNeg, Int.reduceLT, Int.reduceLE, Int.reduceEq, Int.reduceAdd, Int.reduceSub, Nat.reduceLT, Nat.reduceLeDiff, Nat.reduceAdd, Nat.reduceSub, Nat.reduceEqDiff]
  | _ => first | (simp [tm] at hd; done) | (simp (config := {implicitDefEqProofs := false}) only [evSs_nil, nx_nx, nx_rt, evS.eq_1, evS.eq_2, evS.eq_3, evS.eq_4, evS.eq_5, evS.eq_6, evS.eq_7, evS_for, evS.eq_9, evS.eq_10, evS.eq_11, evS.eq_12, evS.eq_13, evS.eq_14, evE, evEs, evO, evC, evI, R.bind_ok, R.bind_exc, R.q_ok, R.q_exc, R.of_some, R.nox_ok, Q.bind_nx, Q.bind_rt, Q.bind_bk, Q.bind_ct, Q.bind_exc, fin_rt, fin_nx, fin_exc, List.getElem?_cons_zero, List.getElem?_cons_succ, List.set_cons_zero, List.set_cons_succ, asgT, asgTs, lstOf, wipeS, srcOf, if_true, if_false, Bool.false_eq_true, Bool.true_eq_false, Bool.not_true, Bool.not_false, decide_true, decide_false, t_bl, t_int, t_non, t_tup, t_lst, c_lt, c_le, c_gt, c_ge, c_eqi, c_nei, c_eqs, c_nes, c_isN, c_isnN, c_isB, c_isnB, b_add, b_sub, ix_tup, ix_frz, ix_scr, at0, at1, isTys_nil, isTys_cons, ty_int_non, ty_int_bl, ty_int_int, ty_int_str, ty_int_tup, ty_int_lst, ty_int_dic, ty_bool_non, ty_bool_bl, ty_bool_int, ty_bool_str, ty_bool_tup, ty_bool_lst, ty_bool_dic, ty_str_non, ty_str_bl, ty_str_int, ty_str_str, ty_str_tup, ty_str_lst, ty_str_dic, ty_tuple_non, ty_tuple_bl, ty_tuple_int, ty_tuple_str, ty_tuple_tup, ty_tuple_lst, ty_tuple_dic, ty_list_non, ty_list_bl, ty_list_int, ty_list_str, ty_list_tup, ty_list_lst, ty_list_dic, ty_dict_non, ty_dict_bl, ty_dict_int, ty_dict_str, ty_dict_tup, ty_dict_lst, ty_dict_dic, ty_err_exn, ty_own_exn, bi_len_scr, bi_len_tup, bi_len_lst, bi_tuple_lst, bi_tuple_tup, bi_list_lst, bi_list_tup, bi_max, bi_min, mt_append, mt_part, mt_split, mt_splitN, mt_join, sl_tup, sl_lst, seqV, end_raw, Option.bind_some, Option.map_some, chk_nil, List.append_nil, okR_ok, okQ_ok, c_ins, c_nins, Int.cast_ofNat_Int, List.length_cons, List.length_nil, List.cons.injEq, and_self, and_true, true_and, and_false, false_and, Nat.zero_add, not_true_eq_false, not_false_eq_true, Bool.true_and, Bool.and_true, Bool.false_and, Bool.and_false, Bool.true_or, Bool.or_true, Bool.false_or, Bool.or_false, beq_self_eq_true, eq_self, evSs, Fnum, List.map_cons, List.map_nil, List.replicate, List.cons_append, List.nil_append, word_ok (show 1 ≤ n by omega) hW g hd hs, end_pure0 (show pl 40 (.bl false) = true from rfl), isWord, numD, Nat.reduceBEq, Int.reduceBEq, String.reduceBEq, String.reduceEq, Nat.reduceEqDiff, reduceCtorEq, Int.reduceNeg, Int.reduceLT, Int.reduceLE, Int.reduceEq, Int.reduceAdd, Int.reduceSub, Nat.reduceLT, Nat.reduceLeDiff, Nat.reduceAdd, Nat.reduceSub, Nat.reduceEqDiff])
theorem label_ok (hm : 3 ≤ m) (hF : Fs[f]? = some (Flabel fn fp)) (hN : Fs[fn]? = some (Fname fw le kw)) (hP : Fs[fp]? = some (Fnum fw md di)) (hW : Fs[fw]? = some (Fword kw le di ml)) (g : GW G kw le di ml) (hmd : G.gls[md]? = some (.int 4)) {d : D} (hd : tm d = true) (hs : shS lim d = true) (h : Hs) :
    callN G Fs m f [d] h = .ok (.bl (isLabel d)) h := by
  obtain ⟨n, rfl⟩ : ∃ n, m = n + 1 := ⟨m - 1, by omega⟩
  rw [callN_eq hF rfl]
  simp (config := {implicitDefEqProofs := false}) only [evSs_nil, nx_nx, nx_rt, evS.eq_1, evS.eq_2, evS.eq_3, evS.eq_4, evS.eq_5, evS.eq_6, evS.eq_7, evS_for, evS.eq_9, evS.eq_10, evS.eq_11, evS.eq_12, evS.eq_13, evS.eq_14, evE, evEs, evO, evC, evI, R.bind_ok, R.bind_exc, R.q_ok, R.q_exc, R.of_some, R.nox_ok, Q.bind_nx, Q.bind_rt, Q.bind_bk, Q.bind_ct, Q.bind_exc, fin_rt, fin_nx, fin_exc, List.getElem?_cons_zero, List.getElem?_cons_succ, List.set_cons_zero, List.set_cons_succ, asgT, asgTs, lstOf, wipeS, srcOf, if_true, if_false, Bool.false_eq_true, Bool.true_eq_false, Bool.not_true, Bool.not_false, decide_true, decide_false, t_bl, t_int, t_non, t_tup, t_lst, c_lt, c_le, c_gt, c_ge, c_eqi, c_nei, c_eqs, c_nes, c_isN, c_isnN, c_isB, c_isnB, b_add, b_sub, ix_tup, ix_frz, ix_scr, at0, at1, isTys_nil, isTys_cons, ty_int_non, ty_int_bl, ty_int_int, ty_int_str, ty_int_tup, ty_int_lst, ty_int_dic, ty_bool_non, ty_bool_bl, ty_bool_int, ty_bool_str, ty_bool_tup, ty_bool_lst, ty_bool_dic, ty_str_non, ty_str_bl, ty_str_int, ty_str_str, ty_str_tup, ty_str_lst, ty_str_dic, ty_tuple_non, ty_tuple_bl, ty_tuple_int, ty_tuple_str, ty_tuple_tup, ty_tuple_lst, ty_tuple_dic, ty_list_non, ty_list_bl, ty_list_int, ty_list_str, ty_list_tup, ty_list_lst, ty_list_dic, ty_dict_non, ty_dict_bl, ty_dict_int, ty_dict_str, ty_dict_tup, ty_dict_lst, ty_dict_dic, ty_err_exn, ty_own_exn, bi_len_scr, bi_len_tup, bi_len_lst, bi_tuple_lst, bi_tuple_tup, bi_list_lst, bi_list_tup, bi_max, bi_min, mt_append, mt_part, mt_split, mt_splitN, mt_join, sl_tup, sl_lst, seqV, end_raw, Option.bind_some, Option.map_some, chk_nil, List.append_nil, okR_ok, okQ_ok, c_ins, c_nins, Int.cast_ofNat_Int, List.length_cons, List.length_nil, List.cons.injEq, and_self, and_true, true_and, and_false, false_and, Nat.zero_add, not_true_eq_false, not_false_eq_true, Bool.true_and, Bool.and_true, Bool.false_and, Bool.and_false, Bool.true_or, Bool.or_true, Bool.false_or, Bool.or_false, beq_self_eq_true, eq_self, evSs, Flabel, List.map_cons, List.map_nil, List.replicate, List.cons_append, List.nil_append, name_ok (show 2 ≤ n by omega) hN hW g hd hs, end_pure0 (show pl 40 (.bl (isName d)) = true from rfl), num_ok (show 2 ≤ n by omega) hP hW g hmd hd hs, end_pure0 (numD_pl d), isLabel, Nat.reduceBEq, Int.reduceBEq, String.reduceBEq, String.reduceEq, Nat.reduceEqDiff, reduceCtorEq, Int.reduceNeg, Int.reduceLT, Int.reduceLE, Int.reduceEq, Int.reduceAdd, Int.reduceSub, Nat.reduceLT, Nat.reduceLeDiff, Nat.reduceAdd, Nat.reduceSub, Nat.reduceEqDiff]
  cases isName d with
  | true => simp (config := {implicitDefEqProofs := false}) only [evSs_nil, nx_nx, nx_rt, evS.eq_1, evS.eq_2, evS.eq_3, evS.eq_4, evS.eq_5, evS.eq_6, evS.eq_7, evS_for, evS.eq_9, evS.eq_10, evS.eq_11, evS.eq_12, evS.eq_13, evS.eq_14, evE, evEs, evO, evC, evI, R.bind_ok, R.bind_exc, R.q_ok, R.q_exc, R.of_some, R.nox_ok, Q.bind_nx, Q.bind_rt, Q.bind_bk, Q.bind_ct, Q.bind_exc, fin_rt, fin_nx, fin_exc, List.getElem?_cons_zero, List.getElem?_cons_succ, List.set_cons_zero, List.set_cons_succ, asgT, asgTs, lstOf, wipeS, srcOf, if_true, if_false, Bool.false_eq_true, Bool.true_eq_false, Bool.not_true, Bool.not_false, decide_true, decide_false, t_bl, t_int, t_non, t_tup, t_lst, c_lt, c_le, c_gt, c_ge, c_eqi, c_nei, c_eqs, c_nes, c_isN, c_isnN, c_isB, c_isnB, b_add, b_sub, ix_tup, ix_frz, ix_scr, at0, at1, isTys_nil, isTys_cons, ty_int_non, ty_int_bl, ty_int_int, ty_int_str, ty_int_tup, ty_int_lst, ty_int_dic, ty_bool_non, ty_bool_bl, ty_bool_int, ty_bool_str, ty_bool_tup, ty_bool_lst, ty_bool_dic, ty_str_non, ty_str_bl, ty_str_int, ty_str_str, ty_str_tup, ty_str_lst, ty_str_dic, ty_tuple_non, ty_tuple_bl, ty_tuple_int, ty_tuple_str, ty_tuple_tup, ty_tuple_lst, ty_tuple_dic, ty_list_non, ty_list_bl, ty_list_int, ty_list_str, ty_list_tup, ty_list_lst, ty_list_dic, ty_dict_non, ty_dict_bl, ty_dict_int, ty_dict_str, ty_dict_tup, ty_dict_lst, ty_dict_dic, ty_err_exn, ty_own_exn, bi_len_scr, bi_len_tup, bi_len_lst, bi_tuple_lst, bi_tuple_tup, bi_list_lst, bi_list_tup, bi_max, bi_min, mt_append, mt_part, mt_split, mt_splitN, mt_join, sl_tup, sl_lst, seqV, end_raw, Option.bind_some, Option.map_some, chk_nil, List.append_nil, okR_ok, okQ_ok, c_ins, c_nins, Int.cast_ofNat_Int, List.length_cons, List.length_nil, List.cons.injEq, and_self, and_true, true_and, and_false, false_and, Nat.zero_add, not_true_eq_false, not_false_eq_true, Bool.true_and, Bool.and_true, Bool.false_and, Bool.and_false, Bool.true_or, Bool.or_true, Bool.false_or, Bool.or_false, beq_self_eq_true, eq_self, Nat.reduceBEq, Int.reduceBEq, String.reduceBEq, String.reduceEq, Nat.reduceEqDiff, reduceCtorEq, Int.reduceNeg, Int.reduceLT, Int.reduceLE, Int.reduceEq, Int.reduceAdd, Int.reduceSub, Nat.reduceLT, Nat.reduceLeDiff, Nat.reduceAdd, Nat.reduceSub, Nat.reduceEqDiff]
  | false =>
    simp (config := {implicitDefEqProofs := false}) only [evSs_nil, nx_nx, nx_rt, evS.eq_1, evS.eq_2, evS.eq_3, evS.eq_4, evS.eq_5, evS.eq_6, evS.eq_7, evS_for, evS.eq_9, evS.eq_10, evS.eq_11, evS.eq_12, evS.eq_13, evS.eq_14, evE, evEs, evO, evC, evI, R.bind_ok, R.bind_exc, R.q_ok, R.q_exc, R.of_some, R.nox_ok, Q.bind_nx, Q.bind_rt, Q.bind_bk, Q.bind_ct, Q.bind_exc, fin_rt, fin_nx, fin_exc, List.getElem?_cons_zero, List.getElem?_cons_succ, List.set_cons_zero, List.set_cons_succ, asgT, asgTs, lstOf, wipeS, srcOf, if_true, if_false, Bool.false_eq_true, Bool.true_eq_false, Bool.not_true, Bool.not_false, decide_true, decide_false, t_bl, t_int, t_non, t_tup, t_lst, c_lt, c_le, c_gt, c_ge, c_eqi, c_nei, c_eqs, c_nes, c_isN, c_isnN, c_isB, c_isnB, b_add, b_sub, ix_tup, ix_frz, ix_scr, at0, at1, isTys_nil, isTys_cons, ty_int_non, ty_int_bl, ty_int_int, ty_int_str, ty_int_tup, ty_int_lst, ty_int_dic, ty_bool_non, ty_bool_bl, ty_bool_int, ty_bool_str, ty_bool_tup, ty_bool_lst, ty_bool_dic, ty_str_non, ty_str_bl, ty_str_int, ty_str_str, ty_str_tup, ty_str_lst, ty_str_dic, ty_tuple_non, ty_tuple_bl, ty_tuple_int, ty_tuple_str, ty_tuple_tup, ty_tuple_lst, ty_tuple_dic, ty_list_non, ty_list_bl, ty_list_int, ty_list_str, ty_list_tup, ty_list_lst, ty_list_dic, ty_dict_non, ty_dict_bl, ty_dict_int, ty_dict_str, ty_dict_tup, ty_dict_lst, ty_dict_dic, ty_err_exn, ty_own_exn, bi_len_scr, bi_len_tup, bi_len_lst, bi_tuple_lst, bi_tuple_tup, bi_list_lst, bi_list_tup, bi_max, bi_min, mt_append, mt_part, mt_split, mt_splitN, mt_join, sl_tup, sl_lst, seqV, end_raw, Option.bind_some, Option.map_some, chk_nil, List.append_nil, okR_ok, okQ_ok, c_ins, c_nins, Int.cast_ofNat_Int, List.length_cons, List.length_nil, List.cons.injEq, and_self, and_true, true_and, and_false, false_and, Nat.zero_add, not_true_eq_false, not_false_eq_true, Bool.true_and, Bool.and_true, Bool.false_and, Bool.and_false, Bool.true_or, Bool.or_true, Bool.false_or, Bool.or_false, beq_self_eq_true, eq_self, Nat.reduceBEq, Int.reduceBEq, String.reduceBEq, String.reduceEq, Nat.reduceEqDiff, reduceCtorEq, Int.reduceNeg, Int.reduceLT, Int.reduceLE, Int.reduceEq, Int.reduceAdd, Int.reduceSub, Nat.reduceLT, Nat.reduceLeDiff, Nat.reduceAdd, Nat.reduceSub, Nat.reduceEqDiff]
    try (cases numD d <;> rfl)
theorem label_str {d : D} (h : isLabel d = true) : ∃ s, d = .str s := by
  cases d <;> first | exact ⟨_, rfl⟩ | (simp [isLabel, isName, numD] at h; done)
end
end L2.MP
namespace KX
open PySem L2 L2.MP
def cf : Cf := ⟨["is_integer", "in_range", "is_word", "is_name", "parse_number", "is_label", "is_day", "is_word_list", "is_line", "validate_section", "validate_act", "_law_pool", "_law_draw", "_law_choose", "_law_section_due", "_law_expected", "_law_result", "_law_act", "_law_altered", "law"], ["InvalidLine", "InvalidAct", "InvalidCase"], ["KEYWORDS", "LETTERS", "DIGITS", "MAX_LENGTH", "MAX_DIGITS", "MAX_DAY", "MAX_WORDS", "MAX_SECTIONS", "MAX_LINES"], [(73, 13), (85, 11), (112, 18), (128, 20), (144, 17), (141, 21)], [], ["_law_draw", "_law_choose", "_law_act", "_law_altered", "_law_pool"], [some 0, some 2, some 1], true⟩
def gl : Gl := ⟨[.tup [.str [97, 98, 111, 118, 101], .str [97, 99, 116], .str [97, 102, 116, 101, 114], .str [97, 110, 100], .str [97, 110, 121], .str [98, 101, 99, 111, 109, 101, 115], .str [98, 101, 102, 111, 114, 101], .str [98, 101, 108, 111, 119], .str [101, 120, 99, 101, 112, 116], .str [102, 105, 114, 115, 116], .str [102, 111, 114], .str [102, 114, 111, 109], .str [104, 101, 114, 101], .str [105, 102], .str [105, 110], .str [105, 115], .str [108, 105, 110, 101], .str [109, 101, 97, 110, 115], .str [110, 111, 116], .str [110, 111, 116, 119, 105, 116, 104, 115, 116, 97, 110, 100, 105, 110, 103], .str [111, 102], .str [111, 114], .str [112, 108, 117, 115], .str [112, 117, 116], .str [114, 101, 112, 101, 97, 108, 101, 100], .str [115, 101, 99, 116, 105, 111, 110], .str [115, 117, 98, 106, 101, 99, 116], .str [116, 105, 109, 101, 115], .str [116, 111], .str [117, 110, 108, 101, 115, 115], .str [117, 110, 116, 105, 108], .str [119, 105, 116, 104, 105, 110]], .str [97, 98, 99, 100, 101, 102, 103, 104, 105, 106, 107, 108, 109, 110, 111, 112, 113, 114, 115, 116, 117, 118, 119, 120, 121, 122], .str [48, 49, 50, 51, 52, 53, 54, 55, 56, 57], .int (8), .int (4), .int (9999), .int (24), .int (8), .int (6)], ["ValueError", "ValueError", "ValueError"], [0, 2, 1], [[], [[112, 97, 114, 116], [112, 111, 115, 105, 116, 105, 111, 110]], [[112, 97, 114, 116]]]⟩
def b_0 : List L2.MP.S := [S.ret (some (E.and (E.isi (E.var 0) [Ty.int]) (E.not (E.isi (E.var 0) [Ty.bool]))))]
def F_0 : Fn := ⟨1, 1, b_0⟩
def b_1 : List L2.MP.S := [S.ret (some (E.and (E.call 0 [E.var 0] (Md.pure)) (E.chn (CmpOp.LtE) (CmpOp.LtE) (E.var 1) (E.var 0) (E.var 2))))]
def F_1 : Fn := ⟨3, 3, b_1⟩
def b_2 : List L2.MP.S := [S.ite (E.or (E.not (E.isi (E.var 0) [Ty.str])) (E.cmp (CmpOp.Eq) (E.var 0) (E.cst (D.str [])))) [S.ret (some (E.cst (D.bl false)))] [], S.ite (E.not (E.bi (BI.all) [E.lc [1] (T.nm 1) (I.ex (E.var 0)) none (E.cmp (CmpOp.In) (E.var 1) (E.bin (Operator.Add) (E.glb 1) (E.glb 2))) false] false)) [S.ret (some (E.cst (D.bl false)))] [], S.ret (some (E.or (E.cmp (CmpOp.LtE) (E.bi (BI.len) [E.var 0] false) (E.glb 3)) (E.cmp (CmpOp.In) (E.var 0) (E.glb 0))))]
def F_2 : Fn := ⟨1, 2, b_2⟩
def b_3 : List L2.MP.S := [S.ret (some (E.and (E.call 2 [E.var 0] (Md.pure)) (E.and (E.cmp (CmpOp.In) (E.ix (E.var 0) (E.cst (D.int 0))) (E.glb 1)) (E.cmp (CmpOp.NotIn) (E.var 0) (E.glb 0)))))]
def F_3 : Fn := ⟨1, 1, b_3⟩
def b_4 : List L2.MP.S := [S.ite (E.or (E.not (E.call 2 [E.var 0] (Md.pure))) (E.or (E.cmp (CmpOp.Gt) (E.bi (BI.len) [E.var 0] false) (E.glb 4)) (E.not (E.bi (BI.all) [E.lc [1] (T.nm 1) (I.ex (E.var 0)) none (E.cmp (CmpOp.In) (E.var 1) (E.glb 2)) false] false)))) [S.ret (some (E.cst (D.non)))] [], S.ite (E.and (E.cmp (CmpOp.Gt) (E.bi (BI.len) [E.var 0] false) (E.cst (D.int 1))) (E.cmp (CmpOp.Eq) (E.ix (E.var 0) (E.cst (D.int 0))) (E.cst (D.str [48])))) [S.ret (some (E.cst (D.non)))] [], S.ret (some (E.bi (BI.int) [E.var 0] false))]
def F_4 : Fn := ⟨1, 2, b_4⟩
def b_5 : List L2.MP.S := [S.ret (some (E.or (E.call 3 [E.var 0] (Md.pure)) (E.cmp (CmpOp.IsNot) (E.call 4 [E.var 0] (Md.pure)) (E.cst (D.non)))))]
def F_5 : Fn := ⟨1, 1, b_5⟩
def b_6 : List L2.MP.S := [S.ret (some (E.call 1 [E.var 0, E.cst (D.int 0), E.glb 5] (Md.pure)))]
def F_6 : Fn := ⟨1, 1, b_6⟩
def b_7 : List L2.MP.S := [S.ret (some (E.and (E.isi (E.var 0) [Ty.list]) (E.and (E.chn (CmpOp.LtE) (CmpOp.LtE) (E.cst (D.int 1)) (E.bi (BI.len) [E.var 0] false) (E.glb 6)) (E.bi (BI.all) [E.lc [1] (T.nm 1) (I.ex (E.var 0)) none (E.call 2 [E.var 1] (Md.pure)) false] false))))]
def F_7 : Fn := ⟨1, 2, b_7⟩
def b_8 : List L2.MP.S := [S.ret (some (E.and (E.isi (E.var 0) [Ty.str]) (E.call 7 [E.mt (MT.split) (E.var 0) [E.cst (D.str [32])]] (Md.pure))))]
def F_8 : Fn := ⟨1, 1, b_8⟩
def b_9 : List L2.MP.S := [S.ite (E.or (E.not (E.isi (E.var 1) [Ty.tuple])) (E.or (E.cmp (CmpOp.NotEq) (E.bi (BI.len) [E.var 1] false) (E.cst (D.int 2))) (E.or (E.not (E.call 5 [E.ix (E.var 1) (E.cst (D.int 0))] (Md.pure))) (E.cmp (CmpOp.In) (E.ix (E.var 1) (E.cst (D.int 0))) (E.var 2))))) [S.rais 1 [E.cst (D.str [115, 101, 99, 116, 105, 111, 110]), E.var 0]] [], S.asg (T.nm 3) (E.ix (E.var 1) (E.cst (D.int 1))), S.ite (E.or (E.not (E.isi (E.var 3) [Ty.list])) (E.cmp (CmpOp.Gt) (E.bi (BI.len) [E.var 3] false) (E.glb 8))) [S.rais 1 [E.cst (D.str [115, 101, 99, 116, 105, 111, 110]), E.var 0]] [], S.for_ (T.tp [T.nm 4, T.nm 5]) (I.enum (E.var 3) 0) [S.ite (E.not (E.call 8 [E.var 5] (Md.pure))) [S.rais 1 [E.cst (D.str [108, 105, 110, 101]), E.tup [E.var 0, E.var 4]]] []]]
def F_9 : Fn := ⟨3, 6, b_9⟩
def b_10 : List L2.MP.S := [S.ite (E.or (E.not (E.isi (E.var 0) [Ty.tuple])) (E.cmp (CmpOp.NotEq) (E.bi (BI.len) [E.var 0] false) (E.cst (D.int 3)))) [S.rais 1 [E.cst (D.str [102, 111, 114, 109]), E.cst (D.non)]] [], S.asg (T.tp [T.nm 1, T.nm 2, T.nm 3]) (E.var 0), S.ite (E.not (E.call 3 [E.var 1] (Md.pure))) [S.rais 1 [E.cst (D.str [110, 97, 109, 101]), E.cst (D.non)]] [], S.ite (E.not (E.call 6 [E.var 2] (Md.pure))) [S.rais 1 [E.cst (D.str [100, 97, 121]), E.cst (D.non)]] [], S.ite (E.or (E.not (E.isi (E.var 3) [Ty.list])) (E.cmp (CmpOp.Gt) (E.bi (BI.len) [E.var 3] false) (E.glb 7))) [S.rais 1 [E.cst (D.str [115, 101, 99, 116, 105, 111, 110, 115]), E.cst (D.non)]] [], S.asg (T.nm 4) (E.lst [] true), S.for_ (T.tp [T.nm 5, T.nm 6]) (I.enum (E.var 3) 0) [S.ex (E.call 9 [E.var 5, E.var 6, E.var 4] (Md.pure)), S.ex (E.mt (MT.append) (E.var 4) [E.ix (E.var 6) (E.cst (D.int 0))])]]
def F_10 : Fn := ⟨1, 7, b_10⟩
def b_11 : List L2.MP.S := [S.asg (T.nm 2) (E.cst (D.int 0)), S.ite (E.cmp (CmpOp.Lt) (E.var 1) (E.bi (BI.len) [E.var 0] false)) [S.asg (T.nm 2) (E.ix (E.var 0) (E.var 1))] [], S.asg (T.nm 3) (E.bin (Operator.Mod) (E.bin (Operator.Pow) (E.bin (Operator.Add) (E.bin (Operator.Add) (E.bin (Operator.Mod) (E.var 2) (E.cst (D.int 2147483629))) (E.bin (Operator.Mult) (E.bin (Operator.Mult) (E.cst (D.int 7919)) (E.var 1)) (E.var 1))) (E.cst (D.int 31))) (E.cst (D.int 3))) (E.cst (D.int 2147483647))), S.ite (E.cmp (CmpOp.Lt) (E.var 2) (E.bin (Operator.Pow) (E.cst (D.int 10)) (E.cst (D.int 18)))) [S.asg (T.nm 2) (E.cst (D.int 0))] [], S.ret (some (E.lst [E.var 2, E.var 3] true))]
def F_11 : Fn := ⟨2, 4, b_11⟩
def b_12 : List L2.MP.S := [S.ite (E.cmp (CmpOp.Gt) (E.ix (E.var 0) (E.cst (D.int 0))) (E.cst (D.int 0))) [S.asg (T.nm 2) (E.bin (Operator.Mod) (E.ix (E.var 0) (E.cst (D.int 0))) (E.var 1)), S.sto (E.var 0) (E.cst (D.int 0)) (E.bin (Operator.FloorDiv) (E.ix (E.var 0) (E.cst (D.int 0))) (E.var 1)), S.ret (some (E.var 2))] [], S.sto (E.var 0) (E.cst (D.int 1)) (E.bin (Operator.Mod) (E.bin (Operator.Add) (E.bin (Operator.Mult) (E.ix (E.var 0) (E.cst (D.int 1))) (E.cst (D.int 48271))) (E.cst (D.int 11))) (E.cst (D.int 2147483647))), S.ret (some (E.bin (Operator.Mod) (E.bin (Operator.FloorDiv) (E.bin (Operator.Mod) (E.bin (Operator.Mult) (E.ix (E.var 0) (E.cst (D.int 1))) (E.ix (E.var 0) (E.cst (D.int 1)))) (E.cst (D.int 2147483629))) (E.cst (D.int 64))) (E.var 1)))]
def F_12 : Fn := ⟨2, 3, b_12⟩
def b_13 : List L2.MP.S := [S.ret (some (E.ix (E.var 1) (E.call 12 [E.var 0, E.bi (BI.len) [E.var 1] false] (Md.raw))))]
def F_13 : Fn := ⟨2, 2, b_13⟩
def b_14 : List L2.MP.S := [S.ite (E.or (E.not (E.isi (E.var 1) [Ty.tuple])) (E.or (E.cmp (CmpOp.NotEq) (E.bi (BI.len) [E.var 1] false) (E.cst (D.int 2))) (E.or (E.not (E.call 5 [E.ix (E.var 1) (E.cst (D.int 0))] (Md.pure))) (E.cmp (CmpOp.In) (E.ix (E.var 1) (E.cst (D.int 0))) (E.var 2))))) [S.ret (some (E.tup [E.cst (D.str [115, 101, 99, 116, 105, 111, 110]), E.var 0]))] [], S.ite (E.or (E.not (E.isi (E.ix (E.var 1) (E.cst (D.int 1))) [Ty.list])) (E.cmp (CmpOp.Gt) (E.bi (BI.len) [E.ix (E.var 1) (E.cst (D.int 1))] false) (E.cst (D.int 6)))) [S.ret (some (E.tup [E.cst (D.str [115, 101, 99, 116, 105, 111, 110]), E.var 0]))] [], S.for_ (T.tp [T.nm 3, T.nm 4]) (I.enum (E.ix (E.var 1) (E.cst (D.int 1))) 0) [S.ite (E.not (E.call 8 [E.var 4] (Md.pure))) [S.ret (some (E.tup [E.cst (D.str [108, 105, 110, 101]), E.tup [E.var 0, E.var 3]]))] []], S.ret (some (E.cst (D.non)))]
def F_14 : Fn := ⟨3, 5, b_14⟩
def b_15 : List L2.MP.S := [S.ite (E.or (E.not (E.isi (E.var 0) [Ty.tuple])) (E.cmp (CmpOp.NotEq) (E.bi (BI.len) [E.var 0] false) (E.cst (D.int 3)))) [S.ret (some (E.tup [E.cst (D.str [102, 111, 114, 109]), E.cst (D.non)]))] [], S.for_ (T.tp [T.nm 1, T.nm 2]) (I.ex (E.lst [E.tup [E.cst (D.str [110, 97, 109, 101]), E.call 3 [E.ix (E.var 0) (E.cst (D.int 0))] (Md.pure)], E.tup [E.cst (D.str [100, 97, 121]), E.call 6 [E.ix (E.var 0) (E.cst (D.int 1))] (Md.pure)]] false)) [S.ite (E.not (E.var 2)) [S.ret (some (E.tup [E.var 1, E.cst (D.non)]))] []], S.ite (E.or (E.not (E.isi (E.ix (E.var 0) (E.cst (D.int 2))) [Ty.list])) (E.cmp (CmpOp.Gt) (E.bi (BI.len) [E.ix (E.var 0) (E.cst (D.int 2))] false) (E.cst (D.int 8)))) [S.ret (some (E.tup [E.cst (D.str [115, 101, 99, 116, 105, 111, 110, 115]), E.cst (D.non)]))] [], S.asg (T.nm 3) (E.lst [] true), S.for_ (T.tp [T.nm 4, T.nm 5]) (I.enum (E.ix (E.var 0) (E.cst (D.int 2))) 0) [S.asg (T.nm 6) (E.call 14 [E.var 4, E.var 5, E.var 3] (Md.pure)), S.ite (E.cmp (CmpOp.IsNot) (E.var 6) (E.cst (D.non))) [S.ret (some (E.var 6))] [], S.ex (E.mt (MT.append) (E.var 3) [E.ix (E.var 5) (E.cst (D.int 0))])], S.ret (some (E.cst (D.non)))]
def F_15 : Fn := ⟨1, 7, b_15⟩
def b_16 : List L2.MP.S := [S.asg (T.nm 1) (E.bi (BI.repr) [E.var 0] false), S.try_ [S.asg (T.nm 2) (E.call 10 [E.var 0] (Md.pure))] [Hd.mk [1] (some 3) [S.asg (T.nm 4) (E.and (E.isi (E.var 3) [Ty.err "ValueError"]) (E.and (E.not (E.isi (E.var 3) [Ty.own 2, Ty.own 0])) (E.cmp (CmpOp.Eq) (E.bi (BI.repr) [E.var 0] false) (E.var 1)))), S.ret (some (E.ifx (E.var 4) (E.tup [E.fld (E.var 3) [112, 97, 114, 116], E.fld (E.var 3) [112, 111, 115, 105, 116, 105, 111, 110]]) (E.cst (D.str [111, 100, 100]))))]], S.ret (some (E.ifx (E.cmp (CmpOp.NotEq) (E.bi (BI.repr) [E.var 0] false) (E.var 1)) (E.cst (D.str [111, 100, 100])) (E.var 2)))]
def F_16 : Fn := ⟨1, 5, b_16⟩
def b_17 : List L2.MP.S := [S.asg (T.nm 1) (E.lst [] true), S.for_ (T.nm 2) (I.range (E.cst (D.int 0)) (E.call 12 [E.var 0, E.cst (D.int 10)] (Md.raw))) [S.asg (T.nm 3) (E.call 13 [E.var 0, E.lst [E.cst (D.str [49]), E.cst (D.str [50]), E.cst (D.str [51]), E.cst (D.str [107]), E.cst (D.str [97, 98, 99, 100, 101, 102, 103, 104]), E.cst (D.str [49, 48]), E.cst (D.str [49, 49]), E.cst (D.str [49, 50]), E.cst (D.str [49, 51])] false] (Md.raw)), S.asg (T.nm 3) (E.bin (Operator.Add) (E.var 3) (E.call 13 [E.var 0, E.lst [E.cst (D.str []), E.cst (D.str []), E.cst (D.str [52])] false] (Md.raw))), S.asg (T.nm 4) (E.lc [5] (T.nm 5) (I.range (E.cst (D.int 0)) (E.call 12 [E.var 0, E.cst (D.int 8)] (Md.raw))) none (E.call 13 [E.var 0, E.lst [E.cst (D.str [120]), E.cst (D.str [97, 32, 114, 101, 112, 101, 97, 108, 101, 100]), E.cst (D.str [105, 110, 32, 97, 32, 97, 99, 116, 32, 114, 101, 112, 101, 97, 108, 101, 100]), E.cst (D.str [57, 57, 57, 57])] false] (Md.raw)) false), S.ex (E.mt (MT.append) (E.var 1) [E.tup [E.var 3, E.var 4]])], S.ret (some (E.tup [E.call 13 [E.var 0, E.lst [E.cst (D.str [97]), E.cst (D.str [116, 97, 120, 57])] false] (Md.raw), E.call 13 [E.var 0, E.lst [E.cst (D.int 0), E.cst (D.int 9999), E.cst (D.int 7)] false] (Md.raw), E.var 1]))]
def F_17 : Fn := ⟨1, 6, b_17⟩
def b_18 : List L2.MP.S := [S.asg (T.nm 2) (E.call 13 [E.var 0, E.lst [E.cst (D.non), E.cst (D.bl true), E.cst (D.str []), E.cst (D.str [84, 97, 120]), E.cst (D.str [115, 101, 99, 116, 105, 111, 110]), E.cst (D.int 10000), E.neg (E.cst (D.int 1)), E.lst [] false, E.tup [], E.emp, E.cst (D.str [120, 32, 32, 121]), E.lst [E.cst (D.str [120])] false, E.cst (D.str [49]), E.tup [E.cst (D.str [49]), E.lst [E.cst (D.non)] false]] false] (Md.raw)), S.asg (T.tp [T.nm 3, T.nm 4, T.nm 5]) (E.var 1), S.ite (E.and (E.cmp (CmpOp.NotEq) (E.var 5) (E.lst [] false)) (E.cmp (CmpOp.Eq) (E.call 12 [E.var 0, E.cst (D.int 2)] (Md.raw)) (E.cst (D.int 0)))) [S.asg (T.nm 6) (E.call 12 [E.var 0, E.bi (BI.len) [E.var 5] false] (Md.raw)), S.asg (T.tp [T.nm 7, T.nm 8]) (E.ix (E.var 5) (E.var 6)), S.asg (T.nm 9) (E.lst [E.tup [E.var 2, E.var 8], E.tup [E.var 7, E.var 2], E.tup [E.var 7, E.var 8, E.var 2], E.var 2, E.tup [E.var 7, E.bin (Operator.Add) (E.var 8) (E.lst [E.var 2] false)]] true), S.ex (E.mt (MT.append) (E.var 9) [E.tup [E.var 7, E.bin (Operator.Add) (E.lst [E.var 2] false) (E.sl (E.var 8) (some (E.cst (D.int 1))) none)]]), S.ret (some (E.tup [E.var 3, E.var 4, E.bin (Operator.Add) (E.bin (Operator.Add) (E.sl (E.var 5) none (some (E.var 6))) (E.lst [E.call 13 [E.var 0, E.var 9] (Md.raw)] false)) (E.sl (E.var 5) (some (E.bin (Operator.Add) (E.var 6) (E.cst (D.int 1)))) none)]))] [], S.asg (T.nm 9) (E.lst [E.tup [E.var 2, E.var 4, E.var 5], E.tup [E.var 3, E.var 2, E.var 5], E.tup [E.var 3, E.var 4, E.var 2], E.bi (BI.list) [E.var 1] false, E.sl (E.var 1) none (some (E.cst (D.int 2))), E.bin (Operator.Add) (E.var 1) (E.tup [E.var 2]), E.var 2] true), S.ret (some (E.call 13 [E.var 0, E.var 9] (Md.raw)))]
def F_18 : Fn := ⟨2, 10, b_18⟩
def b_19 : List L2.MP.S := [S.for_ (T.nm 1) (I.range (E.cst (D.int 0)) (E.bi (BI.max) [E.cst (D.int 1), E.bi (BI.min) [E.bi (BI.len) [E.var 0] false, E.cst (D.int 16)] false] false)) [S.asg (T.nm 2) (E.call 11 [E.var 0, E.var 1] (Md.raw)), S.asg (T.nm 3) (E.call 17 [E.var 2] (Md.raw)), S.for_ (T.nm 4) (I.ex (E.bin (Operator.Add) (E.lst [E.var 3] false) (E.lc [5] (T.nm 5) (I.range (E.cst (D.int 0)) (E.cst (D.int 10))) none (E.call 18 [E.var 2, E.var 3] (Md.raw)) false))) [S.ite (E.cmp (CmpOp.NotEq) (E.bi (BI.repr) [E.call 16 [E.var 4] (Md.pure)] false) (E.bi (BI.repr) [E.call 15 [E.var 4] (Md.pure)] false)) [S.ret (some (E.cst (D.bl false)))] []]], S.ret (some (E.cst (D.bl true)))]
def F_19 : Fn := ⟨1, 6, b_19⟩
def Fs : List Fn := [F_0, F_1, F_2, F_3, F_4, F_5, F_6, F_7, F_8, F_9, F_10, F_11, F_12, F_13, F_14, F_15, F_16, F_17, F_18, F_19]
theorem c_0 (n : Nat) (x0 : D) (h : Hs) : callN gl Fs (n + 1) 0 [x0] h = finQ (evSs gl (callN gl Fs n) b_0 [some x0] h) := callN_eq (fn := F_0) rfl rfl
theorem c_1 (n : Nat) (x0 x1 x2 : D) (h : Hs) : callN gl Fs (n + 1) 1 [x0, x1, x2] h = finQ (evSs gl (callN gl Fs n) b_1 [some x0, some x1, some x2] h) := callN_eq (fn := F_1) rfl rfl
theorem c_2 (n : Nat) (x0 : D) (h : Hs) : callN gl Fs (n + 1) 2 [x0] h = finQ (evSs gl (callN gl Fs n) b_2 [some x0, none] h) := callN_eq (fn := F_2) rfl rfl
theorem c_3 (n : Nat) (x0 : D) (h : Hs) : callN gl Fs (n + 1) 3 [x0] h = finQ (evSs gl (callN gl Fs n) b_3 [some x0] h) := callN_eq (fn := F_3) rfl rfl
theorem c_4 (n : Nat) (x0 : D) (h : Hs) : callN gl Fs (n + 1) 4 [x0] h = finQ (evSs gl (callN gl Fs n) b_4 [some x0, none] h) := callN_eq (fn := F_4) rfl rfl
theorem c_5 (n : Nat) (x0 : D) (h : Hs) : callN gl Fs (n + 1) 5 [x0] h = finQ (evSs gl (callN gl Fs n) b_5 [some x0] h) := callN_eq (fn := F_5) rfl rfl
theorem c_6 (n : Nat) (x0 : D) (h : Hs) : callN gl Fs (n + 1) 6 [x0] h = finQ (evSs gl (callN gl Fs n) b_6 [some x0] h) := callN_eq (fn := F_6) rfl rfl
theorem c_7 (n : Nat) (x0 : D) (h : Hs) : callN gl Fs (n + 1) 7 [x0] h = finQ (evSs gl (callN gl Fs n) b_7 [some x0, none] h) := callN_eq (fn := F_7) rfl rfl
theorem c_8 (n : Nat) (x0 : D) (h : Hs) : callN gl Fs (n + 1) 8 [x0] h = finQ (evSs gl (callN gl Fs n) b_8 [some x0] h) := callN_eq (fn := F_8) rfl rfl
theorem c_9 (n : Nat) (x0 x1 x2 : D) (h : Hs) : callN gl Fs (n + 1) 9 [x0, x1, x2] h = finQ (evSs gl (callN gl Fs n) b_9 [some x0, some x1, some x2, none, none, none] h) := callN_eq (fn := F_9) rfl rfl
theorem c_10 (n : Nat) (x0 : D) (h : Hs) : callN gl Fs (n + 1) 10 [x0] h = finQ (evSs gl (callN gl Fs n) b_10 [some x0, none, none, none, none, none, none] h) := callN_eq (fn := F_10) rfl rfl
theorem c_11 (n : Nat) (x0 x1 : D) (h : Hs) : callN gl Fs (n + 1) 11 [x0, x1] h = finQ (evSs gl (callN gl Fs n) b_11 [some x0, some x1, none, none] h) := callN_eq (fn := F_11) rfl rfl
theorem c_12 (n : Nat) (x0 x1 : D) (h : Hs) : callN gl Fs (n + 1) 12 [x0, x1] h = finQ (evSs gl (callN gl Fs n) b_12 [some x0, some x1, none] h) := callN_eq (fn := F_12) rfl rfl
theorem c_13 (n : Nat) (x0 x1 : D) (h : Hs) : callN gl Fs (n + 1) 13 [x0, x1] h = finQ (evSs gl (callN gl Fs n) b_13 [some x0, some x1] h) := callN_eq (fn := F_13) rfl rfl
theorem c_14 (n : Nat) (x0 x1 x2 : D) (h : Hs) : callN gl Fs (n + 1) 14 [x0, x1, x2] h = finQ (evSs gl (callN gl Fs n) b_14 [some x0, some x1, some x2, none, none] h) := callN_eq (fn := F_14) rfl rfl
theorem c_15 (n : Nat) (x0 : D) (h : Hs) : callN gl Fs (n + 1) 15 [x0] h = finQ (evSs gl (callN gl Fs n) b_15 [some x0, none, none, none, none, none, none] h) := callN_eq (fn := F_15) rfl rfl
theorem c_16 (n : Nat) (x0 : D) (h : Hs) : callN gl Fs (n + 1) 16 [x0] h = finQ (evSs gl (callN gl Fs n) b_16 [some x0, none, none, none, none] h) := callN_eq (fn := F_16) rfl rfl
theorem c_17 (n : Nat) (x0 : D) (h : Hs) : callN gl Fs (n + 1) 17 [x0] h = finQ (evSs gl (callN gl Fs n) b_17 [some x0, none, none, none, none, none] h) := callN_eq (fn := F_17) rfl rfl
theorem c_18 (n : Nat) (x0 x1 : D) (h : Hs) : callN gl Fs (n + 1) 18 [x0, x1] h = finQ (evSs gl (callN gl Fs n) b_18 [some x0, some x1, none, none, none, none, none, none, none, none] h) := callN_eq (fn := F_18) rfl rfl
theorem c_19 (n : Nat) (x0 : D) (h : Hs) : callN gl Fs (n + 1) 19 [x0] h = finQ (evSs gl (callN gl Fs n) b_19 [some x0, none, none, none, none, none] h) := callN_eq (fn := F_19) rfl rfl
theorem gl_0 : gl.gls[0]? = some (.tup [.str [97, 98, 111, 118, 101], .str [97, 99, 116], .str [97, 102, 116, 101, 114], .str [97, 110, 100], .str [97, 110, 121], .str [98, 101, 99, 111, 109, 101, 115], .str [98, 101, 102, 111, 114, 101], .str [98, 101, 108, 111, 119], .str [101, 120, 99, 101, 112, 116], .str [102, 105, 114, 115, 116], .str [102, 111, 114], .str [102, 114, 111, 109], .str [104, 101, 114, 101], .str [105, 102], .str [105, 110], .str [105, 115], .str [108, 105, 110, 101], .str [109, 101, 97, 110, 115], .str [110, 111, 116], .str [110, 111, 116, 119, 105, 116, 104, 115, 116, 97, 110, 100, 105, 110, 103], .str [111, 102], .str [111, 114], .str [112, 108, 117, 115], .str [112, 117, 116], .str [114, 101, 112, 101, 97, 108, 101, 100], .str [115, 101, 99, 116, 105, 111, 110], .str [115, 117, 98, 106, 101, 99, 116], .str [116, 105, 109, 101, 115], .str [116, 111], .str [117, 110, 108, 101, 115, 115], .str [117, 110, 116, 105, 108], .str [119, 105, 116, 104, 105, 110]]) := rfl
theorem gl_1 : gl.gls[1]? = some (.str [97, 98, 99, 100, 101, 102, 103, 104, 105, 106, 107, 108, 109, 110, 111, 112, 113, 114, 115, 116, 117, 118, 119, 120, 121, 122]) := rfl
theorem gl_2 : gl.gls[2]? = some (.str [48, 49, 50, 51, 52, 53, 54, 55, 56, 57]) := rfl
theorem gl_3 : gl.gls[3]? = some (.int (8)) := rfl
theorem gl_4 : gl.gls[4]? = some (.int (4)) := rfl
theorem gl_5 : gl.gls[5]? = some (.int (9999)) := rfl
theorem gl_6 : gl.gls[6]? = some (.int (24)) := rfl
theorem gl_7 : gl.gls[7]? = some (.int (8)) := rfl
theorem gl_8 : gl.gls[8]? = some (.int (6)) := rfl
theorem exb_0 : gl.exb[0]? = some "ValueError" := rfl
theorem flc_0 : gl.flc[0]? = some 0 := rfl
theorem exb_1 : gl.exb[1]? = some "ValueError" := rfl
theorem flc_1 : gl.flc[1]? = some 2 := rfl
theorem exb_2 : gl.exb[2]? = some "ValueError" := rfl
theorem flc_2 : gl.flc[2]? = some 1 := rfl
theorem exl : gl.exb.length = 3 := rfl
end KX
namespace KX
open PySem PySem.Spec PyProof.Rows L2
def top (i : Nat) : Stmt := PySem.Challenge.pw_amendedwords_k04_validate_act.main.body.getD i (.Pass ⟨0, 0, 0, 0⟩)

def fn0 : List He.DefD := [⟨("InvalidLine", some "__init__"), "__init__", "InvalidLine.__init__", defArgs (inClass (top 1) 0), defBody (inClass (top 1) 0), defScope (inClass (top 1) 0), [], []⟩,
  ⟨("InvalidAct", some "__init__"), "__init__", "InvalidAct.__init__", defArgs (inClass (top 2) 0), defBody (inClass (top 2) 0), defScope (inClass (top 2) 0), [], []⟩,
  ⟨("InvalidCase", some "__init__"), "__init__", "InvalidCase.__init__", defArgs (inClass (top 3) 0), defBody (inClass (top 3) 0), defScope (inClass (top 3) 0), [], []⟩,
  ⟨("is_integer", none), "is_integer", "is_integer", defArgs (top 12), defBody (top 12), defScope (top 12), [], []⟩,
  ⟨("in_range", none), "in_range", "in_range", defArgs (top 13), defBody (top 13), defScope (top 13), [], []⟩,
  ⟨("is_word", none), "is_word", "is_word", defArgs (top 14), defBody (top 14), defScope (top 14), [], []⟩,
  ⟨("is_name", none), "is_name", "is_name", defArgs (top 15), defBody (top 15), defScope (top 15), [], []⟩,
  ⟨("parse_number", none), "parse_number", "parse_number", defArgs (top 16), defBody (top 16), defScope (top 16), [], []⟩,
  ⟨("is_label", none), "is_label", "is_label", defArgs (top 17), defBody (top 17), defScope (top 17), [], []⟩,
  ⟨("is_day", none), "is_day", "is_day", defArgs (top 18), defBody (top 18), defScope (top 18), [], []⟩,
  ⟨("is_word_list", none), "is_word_list", "is_word_list", defArgs (top 19), defBody (top 19), defScope (top 19), [], []⟩,
  ⟨("is_line", none), "is_line", "is_line", defArgs (top 20), defBody (top 20), defScope (top 20), [], []⟩,
  ⟨("validate_section", none), "validate_section", "validate_section", defArgs (top 24), defBody (top 24), defScope (top 24), [], []⟩,
  ⟨("validate_act", none), "validate_act", "validate_act", defArgs (top 25), defBody (top 25), defScope (top 25), [], []⟩,
  ⟨("_law_pool", none), "_law_pool", "_law_pool", defArgs (top 27), defBody (top 27), defScope (top 27), [], []⟩,
  ⟨("_law_draw", none), "_law_draw", "_law_draw", defArgs (top 28), defBody (top 28), defScope (top 28), [], []⟩,
  ⟨("_law_choose", none), "_law_choose", "_law_choose", defArgs (top 29), defBody (top 29), defScope (top 29), [], []⟩,
  ⟨("_law_section_due", none), "_law_section_due", "_law_section_due", defArgs (top 30), defBody (top 30), defScope (top 30), [], []⟩,
  ⟨("_law_expected", none), "_law_expected", "_law_expected", defArgs (top 31), defBody (top 31), defScope (top 31), [], []⟩,
  ⟨("_law_result", none), "_law_result", "_law_result", defArgs (top 32), defBody (top 32), defScope (top 32), [], []⟩,
  ⟨("_law_act", none), "_law_act", "_law_act", defArgs (top 33), defBody (top 33), defScope (top 33), [], []⟩,
  ⟨("_law_altered", none), "_law_altered", "_law_altered", defArgs (top 34), defBody (top 34), defScope (top 34), [], []⟩,
  ⟨("law", none), "law", "law", defArgs (top 35), defBody (top 35), defScope (top 35), [], []⟩]
def fn : List He.DefD := fn0
def fa : List He.Fa := [.glo "is_integer", .glo "in_range", .glo "is_word", .glo "is_name", .glo "parse_number", .glo "is_label", .glo "is_day", .glo "is_word_list", .glo "is_line", .glo "validate_section", .glo "validate_act", .glo "_law_pool", .glo "_law_draw", .glo "_law_choose", .glo "_law_section_due", .glo "_law_expected", .glo "_law_result", .glo "_law_act", .glo "_law_altered", .glo "law"]
def loose0 : List Str := [("InvalidLine" : Str),
  ("InvalidAct" : Str),
  ("InvalidCase" : Str),
  ("KEYWORDS" : Str),
  ("LETTERS" : Str),
  ("DIGITS" : Str),
  ("MAX_LENGTH" : Str),
  ("MAX_DIGITS" : Str),
  ("MAX_DAY" : Str),
  ("MAX_WORDS" : Str),
  ("is_integer" : Str),
  ("in_range" : Str),
  ("is_word" : Str),
  ("is_name" : Str),
  ("parse_number" : Str),
  ("is_label" : Str),
  ("is_day" : Str),
  ("is_word_list" : Str),
  ("is_line" : Str),
  ("MAX_SECTIONS" : Str),
  ("MAX_LINES" : Str),
  ("validate_section" : Str),
  ("validate_act" : Str),
  ("_law_pool" : Str),
  ("_law_draw" : Str),
  ("_law_choose" : Str),
  ("_law_section_due" : Str),
  ("_law_expected" : Str),
  ("_law_result" : Str),
  ("_law_act" : Str)]
def loose1 : List Str := [("_law_altered" : Str)]
def loose : List Str := loose0 ++ loose1
abbrev R : PySem.W.OpenRow := PySem.W.OpenLaw.row PySem.Challenge.rw_amendedwords_k04_validate_act
open L2.MP
def cls0 : List Str := ["InvalidLine", "InvalidAct", "InvalidCase"]
def xk (K : PySem.W.Frag) : Bool := L2.MP.xkA cf.exs gl.exb cls0 gl.fls cf.gls gl.gls K
abbrev hk : PySem.W.Hook := L2.MP.hookX 5 fa fn xk
def ob (s : PySem.W.SharedT) : Bool × He.AlD := L2.MP.obsXG 5 fa fn xk (HandSHeadRun.getT s)
theorem ob_eq (s : PySem.W.SharedT) : ob s = hk.obs s.abs := L2.MP.obsXG_eq (HandSHeadRun.getT_eq s)
theorem run (w : World) : HandSHeadRun.RunEq R (PySem.W.view R.prog [35]) hk ob 4000 loose w := by
  intro os
  kernel_rfl
def N_0 : List Str := ["value"]
theorem tr_0 : trSs cf 60 N_0 (defScope (top 12)) (defBody (top 12)) = some b_0 := by kernel_rfl
theorem sc_0 : FnScope N_0 ["value"] (defScope (top 12)) := ⟨rfl, rfl, rfl, by decide +kernel, rfl, by decide +kernel, by decide +kernel⟩
theorem nn_0 : ∀ x ∈ N_0, (x == ("__debug__" : Str)) = false ∧ (x == ("__classdict__" : Str)) = false := by decide +kernel
theorem def_0 {K : PySem.W.Frag} {h : Heap} {mg : Str → Option Value} (c : He.SaysD fa fn K) (XK : K.In h) (GK : h.Ns mainGlobals mg) : DefOk cf K mg "is_integer" F_0 := by
  obtain ⟨fd, F1⟩ := c.def_ 3 rfl
  exact ⟨by decide, 60, _, _, _, _, _, fd, N_0, ["value"], He.glo_ok XK GK (c.fact 0 (f := .glo "is_integer") rfl), F1, sc_0, nn_0, tr_0, rfl, rfl, F1.bindsN fun _ _ _ _ _ _ us hl => match us, hl with | [_], _ => rfl⟩
def N_1 : List Str := ["value", "low", "high"]
theorem tr_1 : trSs cf 60 N_1 (defScope (top 13)) (defBody (top 13)) = some b_1 := by kernel_rfl
theorem sc_1 : FnScope N_1 ["value", "low", "high"] (defScope (top 13)) := ⟨rfl, rfl, rfl, by decide +kernel, rfl, by decide +kernel, by decide +kernel⟩
theorem nn_1 : ∀ x ∈ N_1, (x == ("__debug__" : Str)) = false ∧ (x == ("__classdict__" : Str)) = false := by decide +kernel
theorem def_1 {K : PySem.W.Frag} {h : Heap} {mg : Str → Option Value} (c : He.SaysD fa fn K) (XK : K.In h) (GK : h.Ns mainGlobals mg) : DefOk cf K mg "in_range" F_1 := by
  obtain ⟨fd, F1⟩ := c.def_ 4 rfl
  exact ⟨by decide, 60, _, _, _, _, _, fd, N_1, ["value", "low", "high"], He.glo_ok XK GK (c.fact 1 (f := .glo "in_range") rfl), F1, sc_1, nn_1, tr_1, rfl, rfl, F1.bindsN fun _ _ _ _ _ _ us hl => match us, hl with | [_, _, _], _ => rfl⟩
def N_2 : List Str := ["value", "character"]
theorem tr_2 : trSs cf 60 N_2 (defScope (top 14)) (defBody (top 14)) = some b_2 := by kernel_rfl
theorem sc_2 : FnScope N_2 ["value"] (defScope (top 14)) := ⟨rfl, rfl, rfl, by decide +kernel, rfl, by decide +kernel, by decide +kernel⟩
theorem nn_2 : ∀ x ∈ N_2, (x == ("__debug__" : Str)) = false ∧ (x == ("__classdict__" : Str)) = false := by decide +kernel
theorem def_2 {K : PySem.W.Frag} {h : Heap} {mg : Str → Option Value} (c : He.SaysD fa fn K) (XK : K.In h) (GK : h.Ns mainGlobals mg) : DefOk cf K mg "is_word" F_2 := by
  obtain ⟨fd, F1⟩ := c.def_ 5 rfl
  exact ⟨by decide, 60, _, _, _, _, _, fd, N_2, ["value"], He.glo_ok XK GK (c.fact 2 (f := .glo "is_word") rfl), F1, sc_2, nn_2, tr_2, rfl, rfl, F1.bindsN fun _ _ _ _ _ _ us hl => match us, hl with | [_], _ => rfl⟩
def N_3 : List Str := ["value"]
theorem tr_3 : trSs cf 60 N_3 (defScope (top 15)) (defBody (top 15)) = some b_3 := by kernel_rfl
theorem sc_3 : FnScope N_3 ["value"] (defScope (top 15)) := ⟨rfl, rfl, rfl, by decide +kernel, rfl, by decide +kernel, by decide +kernel⟩
theorem nn_3 : ∀ x ∈ N_3, (x == ("__debug__" : Str)) = false ∧ (x == ("__classdict__" : Str)) = false := by decide +kernel
theorem def_3 {K : PySem.W.Frag} {h : Heap} {mg : Str → Option Value} (c : He.SaysD fa fn K) (XK : K.In h) (GK : h.Ns mainGlobals mg) : DefOk cf K mg "is_name" F_3 := by
  obtain ⟨fd, F1⟩ := c.def_ 6 rfl
  exact ⟨by decide, 60, _, _, _, _, _, fd, N_3, ["value"], He.glo_ok XK GK (c.fact 3 (f := .glo "is_name") rfl), F1, sc_3, nn_3, tr_3, rfl, rfl, F1.bindsN fun _ _ _ _ _ _ us hl => match us, hl with | [_], _ => rfl⟩
def N_4 : List Str := ["value", "character"]
theorem tr_4 : trSs cf 60 N_4 (defScope (top 16)) (defBody (top 16)) = some b_4 := by kernel_rfl
theorem sc_4 : FnScope N_4 ["value"] (defScope (top 16)) := ⟨rfl, rfl, rfl, by decide +kernel, rfl, by decide +kernel, by decide +kernel⟩
theorem nn_4 : ∀ x ∈ N_4, (x == ("__debug__" : Str)) = false ∧ (x == ("__classdict__" : Str)) = false := by decide +kernel
theorem def_4 {K : PySem.W.Frag} {h : Heap} {mg : Str → Option Value} (c : He.SaysD fa fn K) (XK : K.In h) (GK : h.Ns mainGlobals mg) : DefOk cf K mg "parse_number" F_4 := by
  obtain ⟨fd, F1⟩ := c.def_ 7 rfl
  exact ⟨by decide, 60, _, _, _, _, _, fd, N_4, ["value"], He.glo_ok XK GK (c.fact 4 (f := .glo "parse_number") rfl), F1, sc_4, nn_4, tr_4, rfl, rfl, F1.bindsN fun _ _ _ _ _ _ us hl => match us, hl with | [_], _ => rfl⟩
def N_5 : List Str := ["value"]
theorem tr_5 : trSs cf 60 N_5 (defScope (top 17)) (defBody (top 17)) = some b_5 := by kernel_rfl
theorem sc_5 : FnScope N_5 ["value"] (defScope (top 17)) := ⟨rfl, rfl, rfl, by decide +kernel, rfl, by decide +kernel, by decide +kernel⟩
theorem nn_5 : ∀ x ∈ N_5, (x == ("__debug__" : Str)) = false ∧ (x == ("__classdict__" : Str)) = false := by decide +kernel
theorem def_5 {K : PySem.W.Frag} {h : Heap} {mg : Str → Option Value} (c : He.SaysD fa fn K) (XK : K.In h) (GK : h.Ns mainGlobals mg) : DefOk cf K mg "is_label" F_5 := by
  obtain ⟨fd, F1⟩ := c.def_ 8 rfl
  exact ⟨by decide, 60, _, _, _, _, _, fd, N_5, ["value"], He.glo_ok XK GK (c.fact 5 (f := .glo "is_label") rfl), F1, sc_5, nn_5, tr_5, rfl, rfl, F1.bindsN fun _ _ _ _ _ _ us hl => match us, hl with | [_], _ => rfl⟩
def N_6 : List Str := ["value"]
theorem tr_6 : trSs cf 60 N_6 (defScope (top 18)) (defBody (top 18)) = some b_6 := by kernel_rfl
theorem sc_6 : FnScope N_6 ["value"] (defScope (top 18)) := ⟨rfl, rfl, rfl, by decide +kernel, rfl, by decide +kernel, by decide +kernel⟩
theorem nn_6 : ∀ x ∈ N_6, (x == ("__debug__" : Str)) = false ∧ (x == ("__classdict__" : Str)) = false := by decide +kernel
theorem def_6 {K : PySem.W.Frag} {h : Heap} {mg : Str → Option Value} (c : He.SaysD fa fn K) (XK : K.In h) (GK : h.Ns mainGlobals mg) : DefOk cf K mg "is_day" F_6 := by
  obtain ⟨fd, F1⟩ := c.def_ 9 rfl
  exact ⟨by decide, 60, _, _, _, _, _, fd, N_6, ["value"], He.glo_ok XK GK (c.fact 6 (f := .glo "is_day") rfl), F1, sc_6, nn_6, tr_6, rfl, rfl, F1.bindsN fun _ _ _ _ _ _ us hl => match us, hl with | [_], _ => rfl⟩
def N_7 : List Str := ["value", "word"]
theorem tr_7 : trSs cf 60 N_7 (defScope (top 19)) (defBody (top 19)) = some b_7 := by kernel_rfl
theorem sc_7 : FnScope N_7 ["value"] (defScope (top 19)) := ⟨rfl, rfl, rfl, by decide +kernel, rfl, by decide +kernel, by decide +kernel⟩
theorem nn_7 : ∀ x ∈ N_7, (x == ("__debug__" : Str)) = false ∧ (x == ("__classdict__" : Str)) = false := by decide +kernel
theorem def_7 {K : PySem.W.Frag} {h : Heap} {mg : Str → Option Value} (c : He.SaysD fa fn K) (XK : K.In h) (GK : h.Ns mainGlobals mg) : DefOk cf K mg "is_word_list" F_7 := by
  obtain ⟨fd, F1⟩ := c.def_ 10 rfl
  exact ⟨by decide, 60, _, _, _, _, _, fd, N_7, ["value"], He.glo_ok XK GK (c.fact 7 (f := .glo "is_word_list") rfl), F1, sc_7, nn_7, tr_7, rfl, rfl, F1.bindsN fun _ _ _ _ _ _ us hl => match us, hl with | [_], _ => rfl⟩
def N_8 : List Str := ["value"]
theorem tr_8 : trSs cf 60 N_8 (defScope (top 20)) (defBody (top 20)) = some b_8 := by kernel_rfl
theorem sc_8 : FnScope N_8 ["value"] (defScope (top 20)) := ⟨rfl, rfl, rfl, by decide +kernel, rfl, by decide +kernel, by decide +kernel⟩
theorem nn_8 : ∀ x ∈ N_8, (x == ("__debug__" : Str)) = false ∧ (x == ("__classdict__" : Str)) = false := by decide +kernel
theorem def_8 {K : PySem.W.Frag} {h : Heap} {mg : Str → Option Value} (c : He.SaysD fa fn K) (XK : K.In h) (GK : h.Ns mainGlobals mg) : DefOk cf K mg "is_line" F_8 := by
  obtain ⟨fd, F1⟩ := c.def_ 11 rfl
  exact ⟨by decide, 60, _, _, _, _, _, fd, N_8, ["value"], He.glo_ok XK GK (c.fact 8 (f := .glo "is_line") rfl), F1, sc_8, nn_8, tr_8, rfl, rfl, F1.bindsN fun _ _ _ _ _ _ us hl => match us, hl with | [_], _ => rfl⟩
def N_9 : List Str := ["number", "section", "labels", "lines", "index", "line"]
theorem tr_9 : trSs cf 60 N_9 (defScope (top 24)) (defBody (top 24)) = some b_9 := by kernel_rfl
theorem sc_9 : FnScope N_9 ["number", "section", "labels"] (defScope (top 24)) := ⟨rfl, rfl, rfl, by decide +kernel, rfl, by decide +kernel, by decide +kernel⟩
theorem nn_9 : ∀ x ∈ N_9, (x == ("__debug__" : Str)) = false ∧ (x == ("__classdict__" : Str)) = false := by decide +kernel
theorem def_9 {K : PySem.W.Frag} {h : Heap} {mg : Str → Option Value} (c : He.SaysD fa fn K) (XK : K.In h) (GK : h.Ns mainGlobals mg) : DefOk cf K mg "validate_section" F_9 := by
  obtain ⟨fd, F1⟩ := c.def_ 12 rfl
  exact ⟨by decide, 60, _, _, _, _, _, fd, N_9, ["number", "section", "labels"], He.glo_ok XK GK (c.fact 9 (f := .glo "validate_section") rfl), F1, sc_9, nn_9, tr_9, rfl, rfl, F1.bindsN fun _ _ _ _ _ _ us hl => match us, hl with | [_, _, _], _ => rfl⟩
def N_10 : List Str := ["value", "name", "day", "sections", "labels", "number", "section"]
theorem tr_10 : trSs cf 60 N_10 (defScope (top 25)) (defBody (top 25)) = some b_10 := by kernel_rfl
theorem sc_10 : FnScope N_10 ["value"] (defScope (top 25)) := ⟨rfl, rfl, rfl, by decide +kernel, rfl, by decide +kernel, by decide +kernel⟩
theorem nn_10 : ∀ x ∈ N_10, (x == ("__debug__" : Str)) = false ∧ (x == ("__classdict__" : Str)) = false := by decide +kernel
theorem def_10 {K : PySem.W.Frag} {h : Heap} {mg : Str → Option Value} (c : He.SaysD fa fn K) (XK : K.In h) (GK : h.Ns mainGlobals mg) : DefOk cf K mg "validate_act" F_10 := by
  obtain ⟨fd, F1⟩ := c.def_ 13 rfl
  exact ⟨by decide, 60, _, _, _, _, _, fd, N_10, ["value"], He.glo_ok XK GK (c.fact 10 (f := .glo "validate_act") rfl), F1, sc_10, nn_10, tr_10, rfl, rfl, F1.bindsN fun _ _ _ _ _ _ us hl => match us, hl with | [_], _ => rfl⟩
def N_11 : List Str := ["_law_script", "_law_k", "_law_cell", "_law_seed"]
theorem tr_11 : trSs cf 60 N_11 (defScope (top 27)) (defBody (top 27)) = some b_11 := by kernel_rfl
theorem sc_11 : FnScope N_11 ["_law_script", "_law_k"] (defScope (top 27)) := ⟨rfl, rfl, rfl, by decide +kernel, rfl, by decide +kernel, by decide +kernel⟩
theorem nn_11 : ∀ x ∈ N_11, (x == ("__debug__" : Str)) = false ∧ (x == ("__classdict__" : Str)) = false := by decide +kernel
theorem def_11 {K : PySem.W.Frag} {h : Heap} {mg : Str → Option Value} (c : He.SaysD fa fn K) (XK : K.In h) (GK : h.Ns mainGlobals mg) : DefOk cf K mg "_law_pool" F_11 := by
  obtain ⟨fd, F1⟩ := c.def_ 14 rfl
  exact ⟨by decide, 60, _, _, _, _, _, fd, N_11, ["_law_script", "_law_k"], He.glo_ok XK GK (c.fact 11 (f := .glo "_law_pool") rfl), F1, sc_11, nn_11, tr_11, rfl, rfl, F1.bindsN fun _ _ _ _ _ _ us hl => match us, hl with | [_, _], _ => rfl⟩
def N_12 : List Str := ["_law_pool_here", "_law_many", "_law_digit"]
theorem tr_12 : trSs cf 60 N_12 (defScope (top 28)) (defBody (top 28)) = some b_12 := by kernel_rfl
theorem sc_12 : FnScope N_12 ["_law_pool_here", "_law_many"] (defScope (top 28)) := ⟨rfl, rfl, rfl, by decide +kernel, rfl, by decide +kernel, by decide +kernel⟩
theorem nn_12 : ∀ x ∈ N_12, (x == ("__debug__" : Str)) = false ∧ (x == ("__classdict__" : Str)) = false := by decide +kernel
theorem def_12 {K : PySem.W.Frag} {h : Heap} {mg : Str → Option Value} (c : He.SaysD fa fn K) (XK : K.In h) (GK : h.Ns mainGlobals mg) : DefOk cf K mg "_law_draw" F_12 := by
  obtain ⟨fd, F1⟩ := c.def_ 15 rfl
  exact ⟨by decide, 60, _, _, _, _, _, fd, N_12, ["_law_pool_here", "_law_many"], He.glo_ok XK GK (c.fact 12 (f := .glo "_law_draw") rfl), F1, sc_12, nn_12, tr_12, rfl, rfl, F1.bindsN fun _ _ _ _ _ _ us hl => match us, hl with | [_, _], _ => rfl⟩
def N_13 : List Str := ["_law_pool_here", "_law_items"]
theorem tr_13 : trSs cf 60 N_13 (defScope (top 29)) (defBody (top 29)) = some b_13 := by kernel_rfl
theorem sc_13 : FnScope N_13 ["_law_pool_here", "_law_items"] (defScope (top 29)) := ⟨rfl, rfl, rfl, by decide +kernel, rfl, by decide +kernel, by decide +kernel⟩
theorem nn_13 : ∀ x ∈ N_13, (x == ("__debug__" : Str)) = false ∧ (x == ("__classdict__" : Str)) = false := by decide +kernel
theorem def_13 {K : PySem.W.Frag} {h : Heap} {mg : Str → Option Value} (c : He.SaysD fa fn K) (XK : K.In h) (GK : h.Ns mainGlobals mg) : DefOk cf K mg "_law_choose" F_13 := by
  obtain ⟨fd, F1⟩ := c.def_ 16 rfl
  exact ⟨by decide, 60, _, _, _, _, _, fd, N_13, ["_law_pool_here", "_law_items"], He.glo_ok XK GK (c.fact 13 (f := .glo "_law_choose") rfl), F1, sc_13, nn_13, tr_13, rfl, rfl, F1.bindsN fun _ _ _ _ _ _ us hl => match us, hl with | [_, _], _ => rfl⟩
def N_14 : List Str := ["_law_number", "_law_section", "_law_labels", "_law_at", "_law_line"]
theorem tr_14 : trSs cf 60 N_14 (defScope (top 30)) (defBody (top 30)) = some b_14 := by kernel_rfl
theorem sc_14 : FnScope N_14 ["_law_number", "_law_section", "_law_labels"] (defScope (top 30)) := ⟨rfl, rfl, rfl, by decide +kernel, rfl, by decide +kernel, by decide +kernel⟩
theorem nn_14 : ∀ x ∈ N_14, (x == ("__debug__" : Str)) = false ∧ (x == ("__classdict__" : Str)) = false := by decide +kernel
theorem def_14 {K : PySem.W.Frag} {h : Heap} {mg : Str → Option Value} (c : He.SaysD fa fn K) (XK : K.In h) (GK : h.Ns mainGlobals mg) : DefOk cf K mg "_law_section_due" F_14 := by
  obtain ⟨fd, F1⟩ := c.def_ 17 rfl
  exact ⟨by decide, 60, _, _, _, _, _, fd, N_14, ["_law_number", "_law_section", "_law_labels"], He.glo_ok XK GK (c.fact 14 (f := .glo "_law_section_due") rfl), F1, sc_14, nn_14, tr_14, rfl, rfl, F1.bindsN fun _ _ _ _ _ _ us hl => match us, hl with | [_, _, _], _ => rfl⟩
def N_15 : List Str := ["_law_value", "_law_part", "_law_is_so", "_law_labels", "_law_number", "_law_section", "_law_found"]
theorem tr_15 : trSs cf 60 N_15 (defScope (top 31)) (defBody (top 31)) = some b_15 := by kernel_rfl
theorem sc_15 : FnScope N_15 ["_law_value"] (defScope (top 31)) := ⟨rfl, rfl, rfl, by decide +kernel, rfl, by decide +kernel, by decide +kernel⟩
theorem nn_15 : ∀ x ∈ N_15, (x == ("__debug__" : Str)) = false ∧ (x == ("__classdict__" : Str)) = false := by decide +kernel
theorem def_15 {K : PySem.W.Frag} {h : Heap} {mg : Str → Option Value} (c : He.SaysD fa fn K) (XK : K.In h) (GK : h.Ns mainGlobals mg) : DefOk cf K mg "_law_expected" F_15 := by
  obtain ⟨fd, F1⟩ := c.def_ 18 rfl
  exact ⟨by decide, 60, _, _, _, _, _, fd, N_15, ["_law_value"], He.glo_ok XK GK (c.fact 15 (f := .glo "_law_expected") rfl), F1, sc_15, nn_15, tr_15, rfl, rfl, F1.bindsN fun _ _ _ _ _ _ us hl => match us, hl with | [_], _ => rfl⟩
def N_16 : List Str := ["_law_value", "_law_original", "_law_found", "e", "_law_is_so"]
theorem tr_16 : trSs cf 60 N_16 (defScope (top 32)) (defBody (top 32)) = some b_16 := by kernel_rfl
theorem sc_16 : FnScope N_16 ["_law_value"] (defScope (top 32)) := ⟨rfl, rfl, rfl, by decide +kernel, rfl, by decide +kernel, by decide +kernel⟩
theorem nn_16 : ∀ x ∈ N_16, (x == ("__debug__" : Str)) = false ∧ (x == ("__classdict__" : Str)) = false := by decide +kernel
theorem def_16 {K : PySem.W.Frag} {h : Heap} {mg : Str → Option Value} (c : He.SaysD fa fn K) (XK : K.In h) (GK : h.Ns mainGlobals mg) : DefOk cf K mg "_law_result" F_16 := by
  obtain ⟨fd, F1⟩ := c.def_ 19 rfl
  exact ⟨by decide, 60, _, _, _, _, _, fd, N_16, ["_law_value"], He.glo_ok XK GK (c.fact 16 (f := .glo "_law_result") rfl), F1, sc_16, nn_16, tr_16, rfl, rfl, F1.bindsN fun _ _ _ _ _ _ us hl => match us, hl with | [_], _ => rfl⟩
def N_17 : List Str := ["_law_pool_here", "_law_sections", "_law_number", "_law_label", "_law_lines", "_law_turn"]
theorem tr_17 : trSs cf 60 N_17 (defScope (top 33)) (defBody (top 33)) = some b_17 := by kernel_rfl
theorem sc_17 : FnScope N_17 ["_law_pool_here"] (defScope (top 33)) := ⟨rfl, rfl, rfl, by decide +kernel, rfl, by decide +kernel, by decide +kernel⟩
theorem nn_17 : ∀ x ∈ N_17, (x == ("__debug__" : Str)) = false ∧ (x == ("__classdict__" : Str)) = false := by decide +kernel
theorem def_17 {K : PySem.W.Frag} {h : Heap} {mg : Str → Option Value} (c : He.SaysD fa fn K) (XK : K.In h) (GK : h.Ns mainGlobals mg) : DefOk cf K mg "_law_act" F_17 := by
  obtain ⟨fd, F1⟩ := c.def_ 20 rfl
  exact ⟨by decide, 60, _, _, _, _, _, fd, N_17, ["_law_pool_here"], He.glo_ok XK GK (c.fact 17 (f := .glo "_law_act") rfl), F1, sc_17, nn_17, tr_17, rfl, rfl, F1.bindsN fun _ _ _ _ _ _ us hl => match us, hl with | [_], _ => rfl⟩
def N_18 : List Str := ["_law_pool_here", "_law_act_here", "_law_invalid", "_law_name", "_law_day", "_law_sections", "_law_at", "_law_label", "_law_lines", "_law_items"]
theorem tr_18 : trSs cf 60 N_18 (defScope (top 34)) (defBody (top 34)) = some b_18 := by kernel_rfl
theorem sc_18 : FnScope N_18 ["_law_pool_here", "_law_act_here"] (defScope (top 34)) := ⟨rfl, rfl, rfl, by decide +kernel, rfl, by decide +kernel, by decide +kernel⟩
theorem nn_18 : ∀ x ∈ N_18, (x == ("__debug__" : Str)) = false ∧ (x == ("__classdict__" : Str)) = false := by decide +kernel
theorem def_18 {K : PySem.W.Frag} {h : Heap} {mg : Str → Option Value} (c : He.SaysD fa fn K) (XK : K.In h) (GK : h.Ns mainGlobals mg) : DefOk cf K mg "_law_altered" F_18 := by
  obtain ⟨fd, F1⟩ := c.def_ 21 rfl
  exact ⟨by decide, 60, _, _, _, _, _, fd, N_18, ["_law_pool_here", "_law_act_here"], He.glo_ok XK GK (c.fact 18 (f := .glo "_law_altered") rfl), F1, sc_18, nn_18, tr_18, rfl, rfl, F1.bindsN fun _ _ _ _ _ _ us hl => match us, hl with | [_, _], _ => rfl⟩
def N_19 : List Str := ["_law_script", "_law_k", "_law_pool_here", "_law_act_here", "_law_value", "_law_turn"]
theorem tr_19 : trSs cf 60 N_19 (defScope (top 35)) (defBody (top 35)) = some b_19 := by kernel_rfl
theorem sc_19 : FnScope N_19 ["_law_script"] (defScope (top 35)) := ⟨rfl, rfl, rfl, by decide +kernel, rfl, by decide +kernel, by decide +kernel⟩
theorem nn_19 : ∀ x ∈ N_19, (x == ("__debug__" : Str)) = false ∧ (x == ("__classdict__" : Str)) = false := by decide +kernel
theorem def_19 {K : PySem.W.Frag} {h : Heap} {mg : Str → Option Value} (c : He.SaysD fa fn K) (XK : K.In h) (GK : h.Ns mainGlobals mg) : DefOk cf K mg "law" F_19 := by
  obtain ⟨fd, F1⟩ := c.def_ 22 rfl
  exact ⟨by decide, 60, _, _, _, _, _, fd, N_19, ["_law_script"], He.glo_ok XK GK (c.fact 19 (f := .glo "law") rfl), F1, sc_19, nn_19, tr_19, rfl, rfl, F1.bindsN fun _ _ _ _ _ _ us hl => match us, hl with | [_], _ => rfl⟩
theorem hall {K : PySem.W.Frag} {h : Heap} {mg : Str → Option Value} (c : He.SaysD fa fn K) (XK : K.In h) (GK : h.Ns mainGlobals mg) : ∀ (f : Nat) (x : Str), cf.fns[f]? = some x → ∃ fn, Fs[f]? = some fn ∧ DefOk cf K mg x fn :=
  defs_get (xs := cf.fns) (fs := Fs) ⟨def_0 c XK GK, def_1 c XK GK, def_2 c XK GK, def_3 c XK GK, def_4 c XK GK, def_5 c XK GK, def_6 c XK GK, def_7 c XK GK, def_8 c XK GK, def_9 c XK GK, def_10 c XK GK, def_11 c XK GK, def_12 c XK GK, def_13 c XK GK, def_14 c XK GK, def_15 c XK GK, def_16 c XK GK, def_17 c XK GK, def_18 c XK GK, def_19 c XK GK, trivial⟩
theorem z_0 {K : PySem.W.Frag} {mg : Str → Option Value} (c : He.SaysD fa fn K) : ZOk K mg "InvalidLine" (flG gl 0) := by
  have e : flG gl 0 = ([] : List Str) := by decide +kernel
  rw [e]
  obtain ⟨fd, F1⟩ := c.def_ 0 rfl
  exact zok0 F1 (by kernel_rfl) (⟨rfl, rfl, rfl, by decide +kernel, rfl, by decide +kernel, by decide +kernel⟩ : FnScope ["self"] ["self"] (defScope (inClass (top 1) 0))) (by kernel_rfl) (by kernel_rfl) (F1.bindsN fun _ _ _ _ _ _ us hl => match us, hl with | [_], _ => rfl)
theorem z_1 {K : PySem.W.Frag} {mg : Str → Option Value} (c : He.SaysD fa fn K) : ZOk K mg "InvalidAct" (flG gl 1) := by
  have e : flG gl 1 = (["part", "position"] : List Str) := by decide +kernel
  rw [e]
  obtain ⟨fd, F1⟩ := c.def_ 1 rfl
  exact zok2 (s0 := ((defBody (inClass (top 2) 0)).getD 0 (.Pass ⟨0, 0, 0, 0⟩))) (s1 := ((defBody (inClass (top 2) 0)).getD 1 (.Pass ⟨0, 0, 0, 0⟩))) (s2 := ((defBody (inClass (top 2) 0)).getD 2 (.Pass ⟨0, 0, 0, 0⟩))) F1 (by kernel_rfl) (by kernel_rfl) (by kernel_rfl) (by kernel_rfl) (⟨rfl, rfl, rfl, by decide +kernel, rfl, by decide +kernel, by decide +kernel⟩ : FnScope ["self", "part", "position"] ["self", "part", "position"] (defScope (inClass (top 2) 0))) (by kernel_rfl) (by kernel_rfl) (by kernel_rfl) (by kernel_rfl) (by decide +kernel) (by decide +kernel) (F1.bindsN fun _ _ _ _ _ _ us hl => match us, hl with | [_, _, _], _ => rfl)
theorem z_2 {K : PySem.W.Frag} {mg : Str → Option Value} (c : He.SaysD fa fn K) : ZOk K mg "InvalidCase" (flG gl 2) := by
  have e : flG gl 2 = (["part"] : List Str) := by decide +kernel
  rw [e]
  obtain ⟨fd, F1⟩ := c.def_ 2 rfl
  exact zok1 (s0 := ((defBody (inClass (top 3) 0)).getD 0 (.Pass ⟨0, 0, 0, 0⟩))) (s1 := ((defBody (inClass (top 3) 0)).getD 1 (.Pass ⟨0, 0, 0, 0⟩))) F1 (by kernel_rfl) (by kernel_rfl) (by kernel_rfl) (⟨rfl, rfl, rfl, by decide +kernel, rfl, by decide +kernel, by decide +kernel⟩ : FnScope ["self", "part"] ["self", "part"] (defScope (inClass (top 3) 0))) (by kernel_rfl) (by kernel_rfl) (by kernel_rfl) (by decide +kernel) (F1.bindsN fun _ _ _ _ _ _ us hl => match us, hl with | [_, _], _ => rfl)
theorem zall {K : PySem.W.Frag} {mg : Str → Option Value} (sd : He.SaysD fa fn K) (c : Nat) (x : Str) (m : Nat) (h1 : cf.exs[c]? = some x) (h2 : cf.ars[c]? = some (some m)) : ZOk K mg x (flG gl c) := match c, h1, h2 with
  | 0, h1, _ => by
    obtain rfl : ("InvalidLine" : Str) = x := Option.some.inj h1
    exact z_0 sd
  | 1, h1, _ => by
    obtain rfl : ("InvalidAct" : Str) = x := Option.some.inj h1
    exact z_1 sd
  | 2, h1, _ => by
    obtain rfl : ("InvalidCase" : Str) = x := Option.some.inj h1
    exact z_2 sd
  | n + 3, h1, _ => nomatch (show (none : Option Str) = some x from h1)
theorem wf0 {P : Program} {w : World} {K : PySem.W.Frag} {h base : Heap} {mg : Str → Option Value} (XK : K.In h) (GK : h.Ns mainGlobals mg) (c : He.SaysD fa fn K) (hx : xk K = true) : WF0 cf gl (ecOf cf.exs K) P w K (flG gl) mg base :=
  wf0_all XK GK hx (by decide +kernel) (zall c)
theorem facts {P : Program} {w : World} {K : PySem.W.Frag} {h : Heap} {mg : Str → Option Value} {f : Addr} (XK : K.In h) (GK : h.Ns mainGlobals mg) (hfa : mg ("law" : Str) = some (.ref f)) (c : He.SaysD fa fn K) (hx : xk K = true) :
    ∃ fd : FuncData, (∀ (s : Shared) (v : Value), BindsTo s fd ⟨[v], []⟩ [("_law_script", v)]) ∧ ∀ base : Heap, K.In base → base.Ns mainGlobals mg → FnG P w K mg base (L2.CX P w) 63 f fd ["_law_script"] (spOf (ecOf cf.exs K) K (flG gl) 1 (callN gl Fs 60 19)) := by
  obtain ⟨fd, F⟩ := c.def_ 22 rfl
  have e := hfa.symm.trans (He.glo_ok XK GK (c.fact 19 (f := .glo "law") rfl))
  cases e
  have b := FunD.bindsA (ps := ["_law_script"]) F fun _ _ _ _ _ _ us hl => match us, hl with | [_], _ => rfl
  exact ⟨fd, fun s v => b s [v] rfl, fun base _ _ => law_fn (N := 59) (wf0 XK GK c hx) rfl (hall c XK GK) F sc_19 nn_19 tr_19 rfl⟩
end KX
namespace KX
open PySem L2.MP
theorem gL : GL gl Fs 0 1 2 3 6 2 7 := ⟨⟨rfl, rfl, rfl, rfl⟩, rfl, rfl, rfl⟩
def sSec : List Nat := [115, 101, 99, 116, 105, 111, 110]
def sLine : List Nat := [108, 105, 110, 101]
/-- a value that repr takes, not too long -/
def Gd (n : Nat) (d : D) : Prop := rG n d = true ∧ rB n d ≤ 800000
theorem Gd.tm {n : Nat} {d : D} (h : Gd n d) : tm d = true := by
  obtain ⟨h, _⟩ := h
  cases n with
  | zero => cases h
  | succ n => cases d <;> first | rfl | (cases h; done)
theorem Gd.sh {n : Nat} {d : D} (h : Gd n d) : shS 900000 d = true := by
  obtain ⟨h, h2⟩ := h
  cases n with
  | zero => cases h
  | succ n =>
    cases d with
    | str s =>
      simp only [rB] at h2
      exact decide_eq_true (by omega)
    | _ => rfl
theorem Gd.shl {n : Nat} {d : D} (h : Gd n d) : shS lim d = true := by
  obtain ⟨h, h2⟩ := h
  cases n with
  | zero => cases h
  | succ n =>
    cases d with
    | str s =>
      simp only [rB] at h2
      exact decide_eq_true (by unfold lim; omega)
    | _ => rfl
theorem sum_mem {l : List Nat} {x : Nat} (h : x ∈ l) : x ≤ l.sum := by
  induction l with
  | nil => simp at h
  | cons a l ih =>
    rcases List.mem_cons.mp h with rfl | h
    · simp
    · have := ih h
      simp; omega
theorem Gd.tup {n : Nat} {xs : List D} (h : Gd (n + 1) (.tup xs)) : (∀ x ∈ xs, Gd n x) ∧ xs.length ≤ 400000 := by
  obtain ⟨h, h2⟩ := h
  simp only [rB] at h2
  refine ⟨fun x hx => ⟨List.all_eq_true.mp h x hx, ?_⟩, by omega⟩
  have := sum_mem (List.mem_map.mpr ⟨x, hx, rfl⟩ : rB n x ∈ xs.map (rB n))
  omega
theorem Gd.lst {n : Nat} {xs : List D} (h : Gd (n + 1) (.lst xs)) : (∀ x ∈ xs, Gd n x) ∧ xs.length ≤ 400000 := by
  obtain ⟨h, h2⟩ := h
  simp only [rB] at h2
  refine ⟨fun x hx => ⟨List.all_eq_true.mp h x hx, ?_⟩, by omega⟩
  have := sum_mem (List.mem_map.mpr ⟨x, hx, rfl⟩ : rB n x ∈ xs.map (rB n))
  omega
/-! ### what is due -/
def firstBad : Int → List D → Option Int
  | _, [] => none
  | i, l :: r => if isLine l = true then firstBad (i + 1) r else some i
def lineDue (num : Int) (i : Int) (ls : List D) : D := match firstBad i ls with
  | none => .non
  | some j => .tup [.str sLine, .tup [.int num, .int j]]
def secD (num : Int) : D := .tup [.str sSec, .int num]
def secDue (num : Int) (sec : D) (labs : List D) : D := match sec with
  | .tup [a, b] => if isLabel a = true ∧ (labs.any fun z => eqT z a) = false then (match b with
    | .lst ls => if ls.length ≤ 6 then lineDue num 0 ls else secD num
    | _ => secD num) else secD num
  | _ => secD num
/-- how a def that raises ends -/
def outQ (d : D) (sl : Sl) (h : Hs) : Q := match d with
  | .tup [p, q] => .exc 1 [p, q] sl h
  | _ => .ok .nx sl h
def outR (d : D) (h : Hs) : L2.MP.R D := match d with
  | .tup [p, q] => .exc 1 [p, q] h
  | _ => .ok .non h
theorem line8 {n : Nat} (hn : 3 ≤ n) {l : D} {k : Nat} (hl : Gd k l) (h : Hs) : callN gl Fs n 8 [l] h = .ok (.bl (isLine l)) h := line_ok hn gL rfl hl.tm hl.sh h
def Stops (q : Q) : Prop := (∃ c fs sl h, q = .exc c fs sl h) ∨ ∃ v sl h, q = .ok (.rt v) sl h
theorem forL_stop {s : Src} {f : D → Sl → Hs → Q} {x : D} {xs : List D} {sl : Sl} {h : Hs} (hc : chk s h = true) (hs : Stops (f x sl h)) : forL s f (x :: xs) sl h = f x sl h := by
  simp only [forL]
  rw [if_pos hc]
  rcases hs with ⟨c, fs, sl', h', e⟩ | ⟨v, sl', h', e⟩ <;> rw [e]
theorem forL_go {s : Src} {f : D → Sl → Hs → Q} {x : D} {xs : List D} {sl sl' : Sl} {h h' : Hs} (hc : chk s h = true) (e : f x sl h = .ok .nx sl' h') : forL s f (x :: xs) sl h = forL s f xs sl' h' := by
  simp only [forL]
  rw [if_pos hc, e]
theorem lines_loop {f : D → Sl → Hs → Q} {h : Hs} {Pb : Int → Q → Prop} {mk : Option D → Option D → Sl} : ∀ (ls : List D) (i : Int) (a4 a5 : Option D),
    (∀ i l a4 a5, l ∈ ls → isLine l = true → f (.tup [.int i, l]) (mk a4 a5) h = .ok .nx (mk (some (.int i)) (some l)) h) → (∀ i l a4 a5, l ∈ ls → isLine l = false → Pb i (f (.tup [.int i, l]) (mk a4 a5) h)) → (∀ i q, Pb i q → Stops q) →
    (firstBad i ls = none ∧ ∃ b4 b5, forL [] f (enumL i ls) (mk a4 a5) h = .ok .nx (mk b4 b5) h) ∨ ∃ j, firstBad i ls = some j ∧ Pb j (forL [] f (enumL i ls) (mk a4 a5) h)
  | [], i, a4, a5, _, _, _ => .inl ⟨rfl, a4, a5, rfl⟩
  | l :: ls, i, a4, a5, h1, h2, h3 => by
    cases e : isLine l with
    | true =>
      have hf : firstBad i (l :: ls) = firstBad (i + 1) ls := by simp only [firstBad, e, if_true]
      rw [hf]
      simp only [enumL]
      rw [forL_go rfl (h1 i l a4 a5 (List.mem_cons_self ..) e)]
      exact lines_loop ls (i + 1) _ _ (fun i l a4 a5 hl => h1 i l a4 a5 (List.mem_cons_of_mem _ hl)) (fun i l a4 a5 hl => h2 i l a4 a5 (List.mem_cons_of_mem _ hl)) h3
    | false =>
      have q := h2 i l a4 a5 (List.mem_cons_self ..) e
      refine .inr ⟨i, by simp only [firstBad, e]; rfl, ?_⟩
      simp only [enumL]
      rw [forL_stop rfl (h3 i _ q)]
      exact q
theorem c_in_ref {h : Hs} {i : Nat} {xs : List D} {a : D} (e : h[i]? = some (.lst xs)) (ha : pl 40 a = true) (q : ∀ z ∈ xs, pl 40 z = true) : cmpD h .In a (.ref i) = some (xs.any fun z => eqT z a) := by
  show inD h a (.ref i) = _
  exact inD_seq (y := .ref i) ha q (by simp only [seqV, e, Option.bind_some, seqN]) (by intro s z; cases z)
theorem label5 {n : Nat} (hn : 3 ≤ n) {l : D} {k : Nat} (hl : Gd k l) (h : Hs) : callN gl Fs n 5 [l] h = .ok (.bl (isLabel l)) h := label_ok hn (fn := 3) (fp := 4) (fw := 2) (kw := 0) (le := 1) (di := 2) (ml := 3) (md := 4) rfl rfl rfl rfl ⟨rfl, rfl, rfl, rfl⟩ rfl hl.tm hl.shl h
theorem vsec {m k j : Nat} (hm : 5 ≤ m) {h : Hs} {num : Int} {sec : D} {labs : List D} (hg : Gd (k + 2) sec) (hj : h[j]? = some (.lst labs)) (hp : ∀ z ∈ labs, pl 40 z = true) : callN gl Fs m 9 [.int num, sec, .ref j] h = outR (secDue num sec labs) h := by
  obtain ⟨n, rfl⟩ : ∃ n, m = n + 1 := ⟨m - 1, by omega⟩
  rw [c_9]
  have fin : ∀ d sl, finQ (outQ d sl h) = outR d h := fun d sl => by
    unfold outQ outR
    split <;> rfl
  cases sec with
  | tup xs =>
    obtain ⟨hx, hxl⟩ := hg.tup
    by_cases h2 : xs.length = 2
    · obtain ⟨a, b, rfl⟩ : ∃ a b, xs = [a, b] := by
        match xs, h2 with
        | [a, b], _ => exact ⟨a, b, rfl⟩
      have ga := hx a (by simp)
      have gb := hx b (by simp)
      cases ea : isLabel a with
      | false => simp (config := {implicitDefEqProofs := false}) only [evSs_nil, nx_nx, nx_rt, evS.eq_1, evS.eq_2, evS.eq_3, evS.eq_4, evS.eq_5, evS.eq_6, evS.eq_7, evS_for, evS.eq_9, evS.eq_10, evS.eq_11, evS.eq_12, evS.eq_13, evS.eq_14, evE, evEs, evO, evC, evI, R.bind_ok, R.bind_exc, R.q_ok, R.q_exc, R.of_some, R.nox_ok, Q.bind_nx, Q.bind_rt, Q.bind_bk, Q.bind_ct, Q.bind_exc, fin_rt, fin_nx, fin_exc, List.getElem?_cons_zero, List.getElem?_cons_succ, List.set_cons_zero, List.set_cons_succ, asgT, asgTs, lstOf, wipeS, srcOf, lstV, if_true, if_false, Bool.false_eq_true, Bool.true_eq_false, Bool.not_true, Bool.not_false, decide_true, decide_false, t_bl, t_int, t_non, t_tup, t_lst, c_lt, c_le, c_gt, c_ge, c_eqi, c_nei, c_eqs, c_nes, c_isN, c_isnN, c_isB, c_isnB, b_add, b_sub, ix_tup, ix_frz, ix_scr, at0, at1, isTys_nil, isTys_cons, ty_int_non, ty_int_bl, ty_int_int, ty_int_str, ty_int_tup, ty_int_lst, ty_int_dic, ty_bool_non, ty_bool_bl, ty_bool_int, ty_bool_str, ty_bool_tup, ty_bool_lst, ty_bool_dic, ty_str_non, ty_str_bl, ty_str_int, ty_str_str, ty_str_tup, ty_str_lst, ty_str_dic, ty_tuple_non, ty_tuple_bl, ty_tuple_int, ty_tuple_str, ty_tuple_tup, ty_tuple_lst, ty_tuple_dic, ty_list_non, ty_list_bl, ty_list_int, ty_list_str, ty_list_tup, ty_list_lst, ty_list_dic, ty_dict_non, ty_dict_bl, ty_dict_int, ty_dict_str, ty_dict_tup, ty_dict_lst, ty_dict_dic, ty_err_exn, ty_own_exn, bi_len_scr, bi_len_tup, bi_len_lst, bi_tuple_lst, bi_tuple_tup, bi_list_lst, bi_list_tup, bi_max, bi_min, mt_append, mt_part, mt_split, mt_splitN, mt_join, sl_tup, sl_lst, seqV, end_raw, Option.bind_some, Option.map_some, chk_nil, List.append_nil, okR_ok, okQ_ok, c_ins, c_nins, Int.cast_ofNat_Int, List.length_cons, List.length_nil, List.cons.injEq, and_self, and_true, true_and, and_false, false_and, Nat.zero_add, not_true_eq_false, not_false_eq_true, Bool.true_and, Bool.and_true, Bool.false_and, Bool.and_false, Bool.true_or, Bool.or_true, Bool.false_or, Bool.or_false, beq_self_eq_true, eq_self, evSs, b_9, label5 (show 3 ≤ n by omega) ga, ea, end_pure0 (show pl 40 (.bl false) = true from rfl), flc_1, secDue, secD, outR, sSec, Nat.reduceBEq, Int.reduceBEq, String.reduceBEq, String.reduceEq, Nat.reduceEqDiff, reduceCtorEq, Int.reduceNeg, Int.reduceLT, Int.reduceLE, Int.reduceEq, Int.reduceAdd, Int.reduceSub, Nat.reduceLT, Nat.reduceLeDiff, Nat.reduceAdd, Nat.reduceSub, Nat.reduceEqDiff]
      | true =>
        obtain ⟨s, rfl⟩ := label_str ea
        cases el : labs.any fun z => eqT z (.str s) with
        | true => simp (config := {implicitDefEqProofs := false}) only [evSs_nil, nx_nx, nx_rt, evS.eq_1, evS.eq_2, evS.eq_3, evS.eq_4, evS.eq_5, evS.eq_6, evS.eq_7, evS_for, evS.eq_9, evS.eq_10, evS.eq_11, evS.eq_12, evS.eq_13, evS.eq_14, evE, evEs, evO, evC, evI, R.bind_ok, R.bind_exc, R.q_ok, R.q_exc, R.of_some, R.nox_ok, Q.bind_nx, Q.bind_rt, Q.bind_bk, Q.bind_ct, Q.bind_exc, fin_rt, fin_nx, fin_exc, List.getElem?_cons_zero, List.getElem?_cons_succ, List.set_cons_zero, List.set_cons_succ, asgT, asgTs, lstOf, wipeS, srcOf, lstV, if_true, if_false, Bool.false_eq_true, Bool.true_eq_false, Bool.not_true, Bool.not_false, decide_true, decide_false, t_bl, t_int, t_non, t_tup, t_lst, c_lt, c_le, c_gt, c_ge, c_eqi, c_nei, c_eqs, c_nes, c_isN, c_isnN, c_isB, c_isnB, b_add, b_sub, ix_tup, ix_frz, ix_scr, at0, at1, isTys_nil, isTys_cons, ty_int_non, ty_int_bl, ty_int_int, ty_int_str, ty_int_tup, ty_int_lst, ty_int_dic, ty_bool_non, ty_bool_bl, ty_bool_int, ty_bool_str, ty_bool_tup, ty_bool_lst, ty_bool_dic, ty_str_non, ty_str_bl, ty_str_int, ty_str_str, ty_str_tup, ty_str_lst, ty_str_dic, ty_tuple_non, ty_tuple_bl, ty_tuple_int, ty_tuple_str, ty_tuple_tup, ty_tuple_lst, ty_tuple_dic, ty_list_non, ty_list_bl, ty_list_int, ty_list_str, ty_list_tup, ty_list_lst, ty_list_dic, ty_dict_non, ty_dict_bl, ty_dict_int, ty_dict_str, ty_dict_tup, ty_dict_lst, ty_dict_dic, ty_err_exn, ty_own_exn, bi_len_scr, bi_len_tup, bi_len_lst, bi_tuple_lst, bi_tuple_tup, bi_list_lst, bi_list_tup, bi_max, bi_min, mt_append, mt_part, mt_split, mt_splitN, mt_join, sl_tup, sl_lst, seqV, end_raw, Option.bind_some, Option.map_some, chk_nil, List.append_nil, okR_ok, okQ_ok, c_ins, c_nins, Int.cast_ofNat_Int, List.length_cons, List.length_nil, List.cons.injEq, and_self, and_true, true_and, and_false, false_and, Nat.zero_add, not_true_eq_false, not_false_eq_true, Bool.true_and, Bool.and_true, Bool.false_and, Bool.and_false, Bool.true_or, Bool.or_true, Bool.false_or, Bool.or_false, beq_self_eq_true, eq_self, evSs, b_9, label5 (show 3 ≤ n by omega) ga, ea, end_pure0 (show pl 40 (.bl true) = true from rfl), c_in_ref hj (show pl 40 (.str s) = true from rfl) hp, el, flc_1, secDue, secD, outR, sSec, Nat.reduceBEq, Int.reduceBEq, String.reduceBEq, String.reduceEq, Nat.reduceEqDiff, reduceCtorEq, Int.reduceNeg, Int.reduceLT, Int.reduceLE, Int.reduceEq, Int.reduceAdd, Int.reduceSub, Nat.reduceLT, Nat.reduceLeDiff, Nat.reduceAdd, Nat.reduceSub, Nat.reduceEqDiff]
        | false =>
          cases b with
          | lst ls =>
            obtain ⟨hls, _⟩ := gb.lst
            have e6 : (6 : Int) < (ls.length : Nat) ↔ ¬ ls.length ≤ 6 := by omega
            by_cases h6 : ls.length ≤ 6
            · simp (config := {implicitDefEqProofs := false}) only [evSs_nil, nx_nx, nx_rt, evS.eq_1, evS.eq_2, evS.eq_3, evS.eq_4, evS.eq_5, evS.eq_6, evS.eq_7, evS_for, evS.eq_9, evS.eq_10, evS.eq_11, evS.eq_12, evS.eq_13, evS.eq_14, evE, evEs, evO, evC, evI, R.bind_ok, R.bind_exc, R.q_ok, R.q_exc, R.of_some, R.nox_ok, Q.bind_nx, Q.bind_rt, Q.bind_bk, Q.bind_ct, Q.bind_exc, fin_rt, fin_nx, fin_exc, List.getElem?_cons_zero, List.getElem?_cons_succ, List.set_cons_zero, List.set_cons_succ, asgT, asgTs, lstOf, wipeS, srcOf, lstV, if_true, if_false, Bool.false_eq_true, Bool.true_eq_false, Bool.not_true, Bool.not_false, decide_true, decide_false, t_bl, t_int, t_non, t_tup, t_lst, c_lt, c_le, c_gt, c_ge, c_eqi, c_nei, c_eqs, c_nes, c_isN, c_isnN, c_isB, c_isnB, b_add, b_sub, ix_tup, ix_frz, ix_scr, at0, at1, isTys_nil, isTys_cons, ty_int_non, ty_int_bl, ty_int_int, ty_int_str, ty_int_tup, ty_int_lst, ty_int_dic, ty_bool_non, ty_bool_bl, ty_bool_int, ty_bool_str, ty_bool_tup, ty_bool_lst, ty_bool_dic, ty_str_non, ty_str_bl, ty_str_int, ty_str_str, ty_str_tup, ty_str_lst, ty_str_dic, ty_tuple_non, ty_tuple_bl, ty_tuple_int, ty_tuple_str, ty_tuple_tup, ty_tuple_lst, ty_tuple_dic, ty_list_non, ty_list_bl, ty_list_int, ty_list_str, ty_list_tup, ty_list_lst, ty_list_dic, ty_dict_non, ty_dict_bl, ty_dict_int, ty_dict_str, ty_dict_tup, ty_dict_lst, ty_dict_dic, ty_err_exn, ty_own_exn, bi_len_scr, bi_len_tup, bi_len_lst, bi_tuple_lst, bi_tuple_tup, bi_list_lst, bi_list_tup, bi_max, bi_min, mt_append, mt_part, mt_split, mt_splitN, mt_join, sl_tup, sl_lst, seqV, end_raw, Option.bind_some, Option.map_some, chk_nil, List.append_nil, okR_ok, okQ_ok, c_ins, c_nins, Int.cast_ofNat_Int, List.length_cons, List.length_nil, List.cons.injEq, and_self, and_true, true_and, and_false, false_and, Nat.zero_add, not_true_eq_false, not_false_eq_true, Bool.true_and, Bool.and_true, Bool.false_and, Bool.and_false, Bool.true_or, Bool.or_true, Bool.false_or, Bool.or_false, beq_self_eq_true, eq_self, evSs, b_9, label5 (show 3 ≤ n by omega) ga, ea, end_pure0 (show pl 40 (.bl true) = true from rfl), c_in_ref hj (show pl 40 (.str s) = true from rfl) hp, el, gl_8, e6, h6, secDue, lineDue, Nat.reduceBEq, Int.reduceBEq, String.reduceBEq, String.reduceEq, Nat.reduceEqDiff, reduceCtorEq, Int.reduceNeg, Int.reduceLT, Int.reduceLE, Int.reduceEq, Int.reduceAdd, Int.reduceSub, Nat.reduceLT, Nat.reduceLeDiff, Nat.reduceAdd, Nat.reduceSub, Nat.reduceEqDiff]
              have key := lines_loop (f := forF gl (callN gl Fs n) (.tp [.nm 4, .nm 5]) [.ite (.not (.call 8 [.var 5] .pure)) [.rais 1 [.cst (.str [108, 105, 110, 101]), .tup [.var 0, .var 4]]] []]) (h := h)
                (Pb := fun i q => ∃ sl, q = .exc 1 [.str sLine, .tup [.int num, .int i]] sl h) (mk := fun a4 a5 => [some (.int num), some (.tup [.str s, .lst ls]), some (.ref j), some (.lst ls), a4, a5]) ls 0 none none
                (fun i l a4 a5 hl e => by simp (config := {implicitDefEqProofs := false}) only [evSs_nil, nx_nx, nx_rt, evS.eq_1, evS.eq_2, evS.eq_3, evS.eq_4, evS.eq_5, evS.eq_6, evS.eq_7, evS_for, evS.eq_9, evS.eq_10, evS.eq_11, evS.eq_12, evS.eq_13, evS.eq_14, evE, evEs, evO, evC, evI, R.bind_ok, R.bind_exc, R.q_ok, R.q_exc, R.of_some, R.nox_ok, Q.bind_nx, Q.bind_rt, Q.bind_bk, Q.bind_ct, Q.bind_exc, fin_rt, fin_nx, fin_exc, List.getElem?_cons_zero, List.getElem?_cons_succ, List.set_cons_zero, List.set_cons_succ, asgT, asgTs, lstOf, wipeS, srcOf, lstV, if_true, if_false, Bool.false_eq_true, Bool.true_eq_false, Bool.not_true, Bool.not_false, decide_true, decide_false, t_bl, t_int, t_non, t_tup, t_lst, c_lt, c_le, c_gt, c_ge, c_eqi, c_nei, c_eqs, c_nes, c_isN, c_isnN, c_isB, c_isnB, b_add, b_sub, ix_tup, ix_frz, ix_scr, at0, at1, isTys_nil, isTys_cons, ty_int_non, ty_int_bl, ty_int_int, ty_int_str, ty_int_tup, ty_int_lst, ty_int_dic, ty_bool_non, ty_bool_bl, ty_bool_int, ty_bool_str, ty_bool_tup, ty_bool_lst, ty_bool_dic, ty_str_non, ty_str_bl, ty_str_int, ty_str_str, ty_str_tup, ty_str_lst, ty_str_dic, ty_tuple_non, ty_tuple_bl, ty_tuple_int, ty_tuple_str, ty_tuple_tup, ty_tuple_lst, ty_tuple_dic, ty_list_non, ty_list_bl, ty_list_int, ty_list_str, ty_list_tup, ty_list_lst, ty_list_dic, ty_dict_non, ty_dict_bl, ty_dict_int, ty_dict_str, ty_dict_tup, ty_dict_lst, ty_dict_dic, ty_err_exn, ty_own_exn, bi_len_scr, bi_len_tup, bi_len_lst, bi_tuple_lst, bi_tuple_tup, bi_list_lst, bi_list_tup, bi_max, bi_min, mt_append, mt_part, mt_split, mt_splitN, mt_join, sl_tup, sl_lst, seqV, end_raw, Option.bind_some, Option.map_some, chk_nil, List.append_nil, okR_ok, okQ_ok, c_ins, c_nins, Int.cast_ofNat_Int, List.length_cons, List.length_nil, List.cons.injEq, and_self, and_true, true_and, and_false, false_and, Nat.zero_add, not_true_eq_false, not_false_eq_true, Bool.true_and, Bool.and_true, Bool.false_and, Bool.and_false, Bool.true_or, Bool.or_true, Bool.false_or, Bool.or_false, beq_self_eq_true, eq_self, evSs, forF, line8 (show 3 ≤ n by omega) (hls l hl), e, end_pure0 (show pl 40 (.bl true) = true from rfl), Nat.reduceBEq, Int.reduceBEq, String.reduceBEq, String.reduceEq, Nat.reduceEqDiff, reduceCtorEq, Int.reduceNeg, Int.reduceLT, Int.reduceLE, Int.reduceEq, Int.reduceAdd, Int.reduceSub, Nat.reduceLT, Nat.reduceLeDiff, Nat.reduceAdd, Nat.reduceSub, Nat.reduceEqDiff])
                (fun i l a4 a5 hl e => ⟨_, by simp (config := {implicitDefEqProofs := false}) only [evSs_nil, nx_nx, nx_rt, evS.eq_1, evS.eq_2, evS.eq_3, evS.eq_4, evS.eq_5, evS.eq_6, evS.eq_7, evS_for, evS.eq_9, evS.eq_10, evS.eq_11, evS.eq_12, evS.eq_13, evS.eq_14, evE, evEs, evO, evC, evI, R.bind_ok, R.bind_exc, R.q_ok, R.q_exc, R.of_some, R.nox_ok, Q.bind_nx, Q.bind_rt, Q.bind_bk, Q.bind_ct, Q.bind_exc, fin_rt, fin_nx, fin_exc, List.getElem?_cons_zero, List.getElem?_cons_succ, List.set_cons_zero, List.set_cons_succ, asgT, asgTs, lstOf, wipeS, srcOf, lstV, if_true, if_false, Bool.false_eq_true, Bool.true_eq_false, Bool.not_true, Bool.not_false, decide_true, decide_false, t_bl, t_int, t_non, t_tup, t_lst, c_lt, c_le, c_gt, c_ge, c_eqi, c_nei, c_eqs, c_nes, c_isN, c_isnN, c_isB, c_isnB, b_add, b_sub, ix_tup, ix_frz, ix_scr, at0, at1, isTys_nil, isTys_cons, ty_int_non, ty_int_bl, ty_int_int, ty_int_str, ty_int_tup, ty_int_lst, ty_int_dic, ty_bool_non, ty_bool_bl, ty_bool_int, ty_bool_str, ty_bool_tup, ty_bool_lst, ty_bool_dic, ty_str_non, ty_str_bl, ty_str_int, ty_str_str, ty_str_tup, ty_str_lst, ty_str_dic, ty_tuple_non, ty_tuple_bl, ty_tuple_int, ty_tuple_str, ty_tuple_tup, ty_tuple_lst, ty_tuple_dic, ty_list_non, ty_list_bl, ty_list_int, ty_list_str, ty_list_tup, ty_list_lst, ty_list_dic, ty_dict_non, ty_dict_bl, ty_dict_int, ty_dict_str, ty_dict_tup, ty_dict_lst, ty_dict_dic, ty_err_exn, ty_own_exn, bi_len_scr, bi_len_tup, bi_len_lst, bi_tuple_lst, bi_tuple_tup, bi_list_lst, bi_list_tup, bi_max, bi_min, mt_append, mt_part, mt_split, mt_splitN, mt_join, sl_tup, sl_lst, seqV, end_raw, Option.bind_some, Option.map_some, chk_nil, List.append_nil, okR_ok, okQ_ok, c_ins, c_nins, Int.cast_ofNat_Int, List.length_cons, List.length_nil, List.cons.injEq, and_self, and_true, true_and, and_false, false_and, Nat.zero_add, not_true_eq_false, not_false_eq_true, Bool.true_and, Bool.and_true, Bool.false_and, Bool.and_false, Bool.true_or, Bool.or_true, Bool.false_or, Bool.or_false, beq_self_eq_true, eq_self, evSs, forF, line8 (show 3 ≤ n by omega) (hls l hl), e, end_pure0 (show pl 40 (.bl false) = true from rfl), flc_1, sLine, Nat.reduceBEq, Int.reduceBEq, String.reduceBEq, String.reduceEq, Nat.reduceEqDiff, reduceCtorEq, Int.reduceNeg, Int.reduceLT, Int.reduceLE, Int.reduceEq, Int.reduceAdd, Int.reduceSub, Nat.reduceLT, Nat.reduceLeDiff, Nat.reduceAdd, Nat.reduceSub, Nat.reduceEqDiff]; rfl⟩)
                (fun i q ⟨sl, e⟩ => .inl ⟨_, _, _, _, e⟩)
              rcases key with ⟨e, b4, b5, q⟩ | ⟨i, e, sl, q⟩
              · rw [q]
                simp (config := {implicitDefEqProofs := false}) only [evSs_nil, nx_nx, nx_rt, evS.eq_1, evS.eq_2, evS.eq_3, evS.eq_4, evS.eq_5, evS.eq_6, evS.eq_7, evS_for, evS.eq_9, evS.eq_10, evS.eq_11, evS.eq_12, evS.eq_13, evS.eq_14, evE, evEs, evO, evC, evI, R.bind_ok, R.bind_exc, R.q_ok, R.q_exc, R.of_some, R.nox_ok, Q.bind_nx, Q.bind_rt, Q.bind_bk, Q.bind_ct, Q.bind_exc, fin_rt, fin_nx, fin_exc, List.getElem?_cons_zero, List.getElem?_cons_succ, List.set_cons_zero, List.set_cons_succ, asgT, asgTs, lstOf, wipeS, srcOf, lstV, if_true, if_false, Bool.false_eq_true, Bool.true_eq_false, Bool.not_true, Bool.not_false, decide_true, decide_false, t_bl, t_int, t_non, t_tup, t_lst, c_lt, c_le, c_gt, c_ge, c_eqi, c_nei, c_eqs, c_nes, c_isN, c_isnN, c_isB, c_isnB, b_add, b_sub, ix_tup, ix_frz, ix_scr, at0, at1, isTys_nil, isTys_cons, ty_int_non, ty_int_bl, ty_int_int, ty_int_str, ty_int_tup, ty_int_lst, ty_int_dic, ty_bool_non, ty_bool_bl, ty_bool_int, ty_bool_str, ty_bool_tup, ty_bool_lst, ty_bool_dic, ty_str_non, ty_str_bl, ty_str_int, ty_str_str, ty_str_tup, ty_str_lst, ty_str_dic, ty_tuple_non, ty_tuple_bl, ty_tuple_int, ty_tuple_str, ty_tuple_tup, ty_tuple_lst, ty_tuple_dic, ty_list_non, ty_list_bl, ty_list_int, ty_list_str, ty_list_tup, ty_list_lst, ty_list_dic, ty_dict_non, ty_dict_bl, ty_dict_int, ty_dict_str, ty_dict_tup, ty_dict_lst, ty_dict_dic, ty_err_exn, ty_own_exn, bi_len_scr, bi_len_tup, bi_len_lst, bi_tuple_lst, bi_tuple_tup, bi_list_lst, bi_list_tup, bi_max, bi_min, mt_append, mt_part, mt_split, mt_splitN, mt_join, sl_tup, sl_lst, seqV, end_raw, Option.bind_some, Option.map_some, chk_nil, List.append_nil, okR_ok, okQ_ok, c_ins, c_nins, Int.cast_ofNat_Int, List.length_cons, List.length_nil, List.cons.injEq, and_self, and_true, true_and, and_false, false_and, Nat.zero_add, not_true_eq_false, not_false_eq_true, Bool.true_and, Bool.and_true, Bool.false_and, Bool.and_false, Bool.true_or, Bool.or_true, Bool.false_or, Bool.or_false, beq_self_eq_true, eq_self, e, outR, Nat.reduceBEq, Int.reduceBEq, String.reduceBEq, String.reduceEq, Nat.reduceEqDiff, reduceCtorEq, Int.reduceNeg, Int.reduceLT, Int.reduceLE, Int.reduceEq, Int.reduceAdd, Int.reduceSub, Nat.reduceLT, Nat.reduceLeDiff, Nat.reduceAdd, Nat.reduceSub, Nat.reduceEqDiff]
              · rw [q]
                simp (config := {implicitDefEqProofs := false}) only [evSs_nil, nx_nx, nx_rt, evS.eq_1, evS.eq_2, evS.eq_3, evS.eq_4, evS.eq_5, evS.eq_6, evS.eq_7, evS_for, evS.eq_9, evS.eq_10, evS.eq_11, evS.eq_12, evS.eq_13, evS.eq_14, evE, evEs, evO, evC, evI, R.bind_ok, R.bind_exc, R.q_ok, R.q_exc, R.of_some, R.nox_ok, Q.bind_nx, Q.bind_rt, Q.bind_bk, Q.bind_ct, Q.bind_exc, fin_rt, fin_nx, fin_exc, List.getElem?_cons_zero, List.getElem?_cons_succ, List.set_cons_zero, List.set_cons_succ, asgT, asgTs, lstOf, wipeS, srcOf, lstV, if_true, if_false, Bool.false_eq_true, Bool.true_eq_false, Bool.not_true, Bool.not_false, decide_true, decide_false, t_bl, t_int, t_non, t_tup, t_lst, c_lt, c_le, c_gt, c_ge, c_eqi, c_nei, c_eqs, c_nes, c_isN, c_isnN, c_isB, c_isnB, b_add, b_sub, ix_tup, ix_frz, ix_scr, at0, at1, isTys_nil, isTys_cons, ty_int_non, ty_int_bl, ty_int_int, ty_int_str, ty_int_tup, ty_int_lst, ty_int_dic, ty_bool_non, ty_bool_bl, ty_bool_int, ty_bool_str, ty_bool_tup, ty_bool_lst, ty_bool_dic, ty_str_non, ty_str_bl, ty_str_int, ty_str_str, ty_str_tup, ty_str_lst, ty_str_dic, ty_tuple_non, ty_tuple_bl, ty_tuple_int, ty_tuple_str, ty_tuple_tup, ty_tuple_lst, ty_tuple_dic, ty_list_non, ty_list_bl, ty_list_int, ty_list_str, ty_list_tup, ty_list_lst, ty_list_dic, ty_dict_non, ty_dict_bl, ty_dict_int, ty_dict_str, ty_dict_tup, ty_dict_lst, ty_dict_dic, ty_err_exn, ty_own_exn, bi_len_scr, bi_len_tup, bi_len_lst, bi_tuple_lst, bi_tuple_tup, bi_list_lst, bi_list_tup, bi_max, bi_min, mt_append, mt_part, mt_split, mt_splitN, mt_join, sl_tup, sl_lst, seqV, end_raw, Option.bind_some, Option.map_some, chk_nil, List.append_nil, okR_ok, okQ_ok, c_ins, c_nins, Int.cast_ofNat_Int, List.length_cons, List.length_nil, List.cons.injEq, and_self, and_true, true_and, and_false, false_and, Nat.zero_add, not_true_eq_false, not_false_eq_true, Bool.true_and, Bool.and_true, Bool.false_and, Bool.and_false, Bool.true_or, Bool.or_true, Bool.false_or, Bool.or_false, beq_self_eq_true, eq_self, e, outR, Nat.reduceBEq, Int.reduceBEq, String.reduceBEq, String.reduceEq, Nat.reduceEqDiff, reduceCtorEq, Int.reduceNeg, Int.reduceLT, Int.reduceLE, Int.reduceEq, Int.reduceAdd, Int.reduceSub, Nat.reduceLT, Nat.reduceLeDiff, Nat.reduceAdd, Nat.reduceSub, Nat.reduceEqDiff]
            · simp (config := {implicitDefEqProofs := false}) only [evSs_nil, nx_nx, nx_rt, evS.eq_1, evS.eq_2, evS.eq_3, evS.eq_4, evS.eq_5, evS.eq_6, evS.eq_7, evS_for, evS.eq_9, evS.eq_10, evS.eq_11, evS.eq_12, evS.eq_13, evS.eq_14, evE, evEs, evO, evC, evI, R.bind_ok, R.bind_exc, R.q_ok, R.q_exc, R.of_some, R.nox_ok, Q.bind_nx, Q.bind_rt, Q.bind_bk, Q.bind_ct, Q.bind_exc, fin_rt, fin_nx, fin_exc, List.getElem?_cons_zero, List.getElem?_cons_succ, List.set_cons_zero, List.set_cons_succ, asgT, asgTs, lstOf, wipeS, srcOf, lstV, if_true, if_false, Bool.false_eq_true, Bool.true_eq_false, Bool.not_true, Bool.not_false, decide_true, decide_false, t_bl, t_int, t_non, t_tup, t_lst, c_lt, c_le, c_gt, c_ge, c_eqi, c_nei, c_eqs, c_nes, c_isN, c_isnN, c_isB, c_isnB, b_add, b_sub, ix_tup, ix_frz, ix_scr, at0, at1, isTys_nil, isTys_cons, ty_int_non, ty_int_bl, ty_int_int, ty_int_str, ty_int_tup, ty_int_lst, ty_int_dic, ty_bool_non, ty_bool_bl, ty_bool_int, ty_bool_str, ty_bool_tup, ty_bool_lst, ty_bool_dic, ty_str_non, ty_str_bl, ty_str_int, ty_str_str, ty_str_tup, ty_str_lst, ty_str_dic, ty_tuple_non, ty_tuple_bl, ty_tuple_int, ty_tuple_str, ty_tuple_tup, ty_tuple_lst, ty_tuple_dic, ty_list_non, ty_list_bl, ty_list_int, ty_list_str, ty_list_tup, ty_list_lst, ty_list_dic, ty_dict_non, ty_dict_bl, ty_dict_int, ty_dict_str, ty_dict_tup, ty_dict_lst, ty_dict_dic, ty_err_exn, ty_own_exn, bi_len_scr, bi_len_tup, bi_len_lst, bi_tuple_lst, bi_tuple_tup, bi_list_lst, bi_list_tup, bi_max, bi_min, mt_append, mt_part, mt_split, mt_splitN, mt_join, sl_tup, sl_lst, seqV, end_raw, Option.bind_some, Option.map_some, chk_nil, List.append_nil, okR_ok, okQ_ok, c_ins, c_nins, Int.cast_ofNat_Int, List.length_cons, List.length_nil, List.cons.injEq, and_self, and_true, true_and, and_false, false_and, Nat.zero_add, not_true_eq_false, not_false_eq_true, Bool.true_and, Bool.and_true, Bool.false_and, Bool.and_false, Bool.true_or, Bool.or_true, Bool.false_or, Bool.or_false, beq_self_eq_true, eq_self, evSs, b_9, label5 (show 3 ≤ n by omega) ga, ea, end_pure0 (show pl 40 (.bl true) = true from rfl), c_in_ref hj (show pl 40 (.str s) = true from rfl) hp, el, gl_8, e6, h6, flc_1, secDue, secD, outR, sSec, Nat.reduceBEq, Int.reduceBEq, String.reduceBEq, String.reduceEq, Nat.reduceEqDiff, reduceCtorEq, Int.reduceNeg, Int.reduceLT, Int.reduceLE, Int.reduceEq, Int.reduceAdd, Int.reduceSub, Nat.reduceLT, Nat.reduceLeDiff, Nat.reduceAdd, Nat.reduceSub, Nat.reduceEqDiff]
          | _ => first | (cases gb.1; done) | (simp (config := {implicitDefEqProofs := false}) only [evSs_nil, nx_nx, nx_rt, evS.eq_1, evS.eq_2, evS.eq_3, evS.eq_4, evS.eq_5, evS.eq_6, evS.eq_7, evS_for, evS.eq_9, evS.eq_10, evS.eq_11, evS.eq_12, evS.eq_13, evS.eq_14, evE, evEs, evO, evC, evI, R.bind_ok, R.bind_exc, R.q_ok, R.q_exc, R.of_some, R.nox_ok, Q.bind_nx, Q.bind_rt, Q.bind_bk, Q.bind_ct, Q.bind_exc, fin_rt, fin_nx, fin_exc, List.getElem?_cons_zero, List.getElem?_cons_succ, List.set_cons_zero, List.set_cons_succ, asgT, asgTs, lstOf, wipeS, srcOf, lstV, if_true, if_false, Bool.false_eq_true, Bool.true_eq_false, Bool.not_true, Bool.not_false, decide_true, decide_false, t_bl, t_int, t_non, t_tup, t_lst, c_lt, c_le, c_gt, c_ge, c_eqi, c_nei, c_eqs, c_nes, c_isN, c_isnN, c_isB, c_isnB, b_add, b_sub, ix_tup, ix_frz, ix_scr, at0, at1, isTys_nil, isTys_cons, ty_int_non, ty_int_bl, ty_int_int, ty_int_str, ty_int_tup, ty_int_lst, ty_int_dic, ty_bool_non, ty_bool_bl, ty_bool_int, ty_bool_str, ty_bool_tup, ty_bool_lst, ty_bool_dic, ty_str_non, ty_str_bl, ty_str_int, ty_str_str, ty_str_tup, ty_str_lst, ty_str_dic, ty_tuple_non, ty_tuple_bl, ty_tuple_int, ty_tuple_str, ty_tuple_tup, ty_tuple_lst, ty_tuple_dic, ty_list_non, ty_list_bl, ty_list_int, ty_list_str, ty_list_tup, ty_list_lst, ty_list_dic, ty_dict_non, ty_dict_bl, ty_dict_int, ty_dict_str, ty_dict_tup, ty_dict_lst, ty_dict_dic, ty_err_exn, ty_own_exn, bi_len_scr, bi_len_tup, bi_len_lst, bi_tuple_lst, bi_tuple_tup, bi_list_lst, bi_list_tup, bi_max, bi_min, mt_append, mt_part, mt_split, mt_splitN, mt_join, sl_tup, sl_lst, seqV, end_raw, Option.bind_some, Option.map_some, chk_nil, List.append_nil, okR_ok, okQ_ok, c_ins, c_nins, Int.cast_ofNat_Int, List.length_cons, List.length_nil, List.cons.injEq, and_self, and_true, true_and, and_false, false_and, Nat.zero_add, not_true_eq_false, not_false_eq_true, Bool.true_and, Bool.and_true, Bool.false_and, Bool.and_false, Bool.true_or, Bool.or_true, Bool.false_or, Bool.or_false, beq_self_eq_true, eq_self, evSs, b_9, label5 (show 3 ≤ n by omega) ga, ea, end_pure0 (show pl 40 (.bl true) = true from rfl), c_in_ref hj (show pl 40 (.str s) = true from rfl) hp, el, flc_1, secDue, secD, outR, sSec, Nat.reduceBEq, Int.reduceBEq, String.reduceBEq, String.reduceEq, Nat.reduceEqDiff, reduceCtorEq, Int.reduceNeg, Int.reduceLT, Int.reduceLE, Int.reduceEq, Int.reduceAdd, Int.reduceSub, Nat.reduceLT, Nat.reduceLeDiff, Nat.reduceAdd, Nat.reduceSub, Nat.reduceEqDiff])
    · have e2 : ((xs.length : Nat) : Int) = 2 ↔ False := ⟨fun z => h2 (by omega), False.elim⟩
      have e3 : secDue num (.tup xs) labs = secD num := by
        unfold secDue
        split
        · rename_i z; cases z; exact absurd rfl h2
        · rfl
      simp (config := {implicitDefEqProofs := false}) only [evSs_nil, nx_nx, nx_rt, evS.eq_1, evS.eq_2, evS.eq_3, evS.eq_4, evS.eq_5, evS.eq_6, evS.eq_7, evS_for, evS.eq_9, evS.eq_10, evS.eq_11, evS.eq_12, evS.eq_13, evS.eq_14, evE, evEs, evO, evC, evI, R.bind_ok, R.bind_exc, R.q_ok, R.q_exc, R.of_some, R.nox_ok, Q.bind_nx, Q.bind_rt, Q.bind_bk, Q.bind_ct, Q.bind_exc, fin_rt, fin_nx, fin_exc, List.getElem?_cons_zero, List.getElem?_cons_succ, List.set_cons_zero, List.set_cons_succ, asgT, asgTs, lstOf, wipeS, srcOf, lstV, if_true, if_false, Bool.false_eq_true, Bool.true_eq_false, Bool.not_true, Bool.not_false, decide_true, decide_false, t_bl, t_int, t_non, t_tup, t_lst, c_lt, c_le, c_gt, c_ge, c_eqi, c_nei, c_eqs, c_nes, c_isN, c_isnN, c_isB, c_isnB, b_add, b_sub, ix_tup, ix_frz, ix_scr, at0, at1, isTys_nil, isTys_cons, ty_int_non, ty_int_bl, ty_int_int, ty_int_str, ty_int_tup, ty_int_lst, ty_int_dic, ty_bool_non, ty_bool_bl, ty_bool_int, ty_bool_str, ty_bool_tup, ty_bool_lst, ty_bool_dic, ty_str_non, ty_str_bl, ty_str_int, ty_str_str, ty_str_tup, ty_str_lst, ty_str_dic, ty_tuple_non, ty_tuple_bl, ty_tuple_int, ty_tuple_str, ty_tuple_tup, ty_tuple_lst, ty_tuple_dic, ty_list_non, ty_list_bl, ty_list_int, ty_list_str, ty_list_tup, ty_list_lst, ty_list_dic, ty_dict_non, ty_dict_bl, ty_dict_int, ty_dict_str, ty_dict_tup, ty_dict_lst, ty_dict_dic, ty_err_exn, ty_own_exn, bi_len_scr, bi_len_tup, bi_len_lst, bi_tuple_lst, bi_tuple_tup, bi_list_lst, bi_list_tup, bi_max, bi_min, mt_append, mt_part, mt_split, mt_splitN, mt_join, sl_tup, sl_lst, seqV, end_raw, Option.bind_some, Option.map_some, chk_nil, List.append_nil, okR_ok, okQ_ok, c_ins, c_nins, Int.cast_ofNat_Int, List.length_cons, List.length_nil, List.cons.injEq, and_self, and_true, true_and, and_false, false_and, Nat.zero_add, not_true_eq_false, not_false_eq_true, Bool.true_and, Bool.and_true, Bool.false_and, Bool.and_false, Bool.true_or, Bool.or_true, Bool.false_or, Bool.or_false, beq_self_eq_true, eq_self, evSs, b_9, e2, e3, flc_1, secD, outR, sSec, Nat.reduceBEq, Int.reduceBEq, String.reduceBEq, String.reduceEq, Nat.reduceEqDiff, reduceCtorEq, Int.reduceNeg, Int.reduceLT, Int.reduceLE, Int.reduceEq, Int.reduceAdd, Int.reduceSub, Nat.reduceLT, Nat.reduceLeDiff, Nat.reduceAdd, Nat.reduceSub, Nat.reduceEqDiff]
  | _ => first | (cases hg.1; done) | (simp (config := {implicitDefEqProofs := false}) only [evSs_nil, nx_nx, nx_rt, evS.eq_1, evS.eq_2, evS.eq_3, evS.eq_4, evS.eq_5, evS.eq_6, evS.eq_7, evS_for, evS.eq_9, evS.eq_10, evS.eq_11, evS.eq_12, evS.eq_13, evS.eq_14, evE, evEs, evO, evC, evI, R.bind_ok, R.bind_exc, R.q_ok, R.q_exc, R.of_some, R.nox_ok, Q.bind_nx, Q.bind_rt, Q.bind_bk, Q.bind_ct, Q.bind_exc, fin_rt, fin_nx, fin_exc, List.getElem?_cons_zero, List.getElem?_cons_succ, List.set_cons_zero, List.set_cons_succ, asgT, asgTs, lstOf, wipeS, srcOf, lstV, if_true, if_false, Bool.false_eq_true, Bool.true_eq_false, Bool.not_true, Bool.not_false, decide_true, decide_false, t_bl, t_int, t_non, t_tup, t_lst, c_lt, c_le, c_gt, c_ge, c_eqi, c_nei, c_eqs, c_nes, c_isN, c_isnN, c_isB, c_isnB, b_add, b_sub, ix_tup, ix_frz, ix_scr, at0, at1, isTys_nil, isTys_cons, ty_int_non, ty_int_bl, ty_int_int, ty_int_str, ty_int_tup, ty_int_lst, ty_int_dic, ty_bool_non, ty_bool_bl, ty_bool_int, ty_bool_str, ty_bool_tup, ty_bool_lst, ty_bool_dic, ty_str_non, ty_str_bl, ty_str_int, ty_str_str, ty_str_tup, ty_str_lst, ty_str_dic, ty_tuple_non, ty_tuple_bl, ty_tuple_int, ty_tuple_str, ty_tuple_tup, ty_tuple_lst, ty_tuple_dic, ty_list_non, ty_list_bl, ty_list_int, ty_list_str, ty_list_tup, ty_list_lst, ty_list_dic, ty_dict_non, ty_dict_bl, ty_dict_int, ty_dict_str, ty_dict_tup, ty_dict_lst, ty_dict_dic, ty_err_exn, ty_own_exn, bi_len_scr, bi_len_tup, bi_len_lst, bi_tuple_lst, bi_tuple_tup, bi_list_lst, bi_list_tup, bi_max, bi_min, mt_append, mt_part, mt_split, mt_splitN, mt_join, sl_tup, sl_lst, seqV, end_raw, Option.bind_some, Option.map_some, chk_nil, List.append_nil, okR_ok, okQ_ok, c_ins, c_nins, Int.cast_ofNat_Int, List.length_cons, List.length_nil, List.cons.injEq, and_self, and_true, true_and, and_false, false_and, Nat.zero_add, not_true_eq_false, not_false_eq_true, Bool.true_and, Bool.and_true, Bool.false_and, Bool.and_false, Bool.true_or, Bool.or_true, Bool.false_or, Bool.or_false, beq_self_eq_true, eq_self, evSs, b_9, flc_1, secDue, secD, outR, sSec, Nat.reduceBEq, Int.reduceBEq, String.reduceBEq, String.reduceEq, Nat.reduceEqDiff, reduceCtorEq, Int.reduceNeg, Int.reduceLT, Int.reduceLE, Int.reduceEq, Int.reduceAdd, Int.reduceSub, Nat.reduceLT, Nat.reduceLeDiff, Nat.reduceAdd, Nat.reduceSub, Nat.reduceEqDiff])
theorem lsec {m k j : Nat} (hm : 5 ≤ m) {h : Hs} {num : Int} {sec : D} {labs : List D} (hg : Gd (k + 2) sec) (hj : h[j]? = some (.lst labs)) (hp : ∀ z ∈ labs, pl 40 z = true) : callN gl Fs m 14 [.int num, sec, .ref j] h = .ok (secDue num sec labs) h := by
  obtain ⟨n, rfl⟩ : ∃ n, m = n + 1 := ⟨m - 1, by omega⟩
  rw [c_14]
  cases sec with
  | tup xs =>
    obtain ⟨hx, hxl⟩ := hg.tup
    by_cases h2 : xs.length = 2
    · obtain ⟨a, b, rfl⟩ : ∃ a b, xs = [a, b] := by
        match xs, h2 with
        | [a, b], _ => exact ⟨a, b, rfl⟩
      have ga := hx a (by simp)
      have gb := hx b (by simp)
      cases ea : isLabel a with
      | false => simp (config := {implicitDefEqProofs := false}) only [evSs_nil, nx_nx, nx_rt, evS.eq_1, evS.eq_2, evS.eq_3, evS.eq_4, evS.eq_5, evS.eq_6, evS.eq_7, evS_for, evS.eq_9, evS.eq_10, evS.eq_11, evS.eq_12, evS.eq_13, evS.eq_14, evE, evEs, evO, evC, evI, R.bind_ok, R.bind_exc, R.q_ok, R.q_exc, R.of_some, R.nox_ok, Q.bind_nx, Q.bind_rt, Q.bind_bk, Q.bind_ct, Q.bind_exc, fin_rt, fin_nx, fin_exc, List.getElem?_cons_zero, List.getElem?_cons_succ, List.set_cons_zero, List.set_cons_succ, asgT, asgTs, lstOf, wipeS, srcOf, lstV, if_true, if_false, Bool.false_eq_true, Bool.true_eq_false, Bool.not_true, Bool.not_false, decide_true, decide_false, t_bl, t_int, t_non, t_tup, t_lst, c_lt, c_le, c_gt, c_ge, c_eqi, c_nei, c_eqs, c_nes, c_isN, c_isnN, c_isB, c_isnB, b_add, b_sub, ix_tup, ix_frz, ix_scr, at0, at1, isTys_nil, isTys_cons, ty_int_non, ty_int_bl, ty_int_int, ty_int_str, ty_int_tup, ty_int_lst, ty_int_dic, ty_bool_non, ty_bool_bl, ty_bool_int, ty_bool_str, ty_bool_tup, ty_bool_lst, ty_bool_dic, ty_str_non, ty_str_bl, ty_str_int, ty_str_str, ty_str_tup, ty_str_lst, ty_str_dic, ty_tuple_non, ty_tuple_bl, ty_tuple_int, ty_tuple_str, ty_tuple_tup, ty_tuple_lst, ty_tuple_dic, ty_list_non, ty_list_bl, ty_list_int, ty_list_str, ty_list_tup, ty_list_lst, ty_list_dic, ty_dict_non, ty_dict_bl, ty_dict_int, ty_dict_str, ty_dict_tup, ty_dict_lst, ty_dict_dic, ty_err_exn, ty_own_exn, bi_len_scr, bi_len_tup, bi_len_lst, bi_tuple_lst, bi_tuple_tup, bi_list_lst, bi_list_tup, bi_max, bi_min, mt_append, mt_part, mt_split, mt_splitN, mt_join, sl_tup, sl_lst, seqV, end_raw, Option.bind_some, Option.map_some, chk_nil, List.append_nil, okR_ok, okQ_ok, c_ins, c_nins, Int.cast_ofNat_Int, List.length_cons, List.length_nil, List.cons.injEq, and_self, and_true, true_and, and_false, false_and, Nat.zero_add, not_true_eq_false, not_false_eq_true, Bool.true_and, Bool.and_true, Bool.false_and, Bool.and_false, Bool.true_or, Bool.or_true, Bool.false_or, Bool.or_false, beq_self_eq_true, eq_self, evSs, b_14, label5 (show 3 ≤ n by omega) ga, ea, end_pure0 (show pl 40 (.bl false) = true from rfl), secDue, secD, sSec, Nat.reduceBEq, Int.reduceBEq, String.reduceBEq, String.reduceEq, Nat.reduceEqDiff, reduceCtorEq, Int.reduceNeg, Int.reduceLT, Int.reduceLE, Int.reduceEq, Int.reduceAdd, Int.reduceSub, Nat.reduceLT, Nat.reduceLeDiff, Nat.reduceAdd, Nat.reduceSub, Nat.reduceEqDiff]
      | true =>
        obtain ⟨s, rfl⟩ := label_str ea
        cases el : labs.any fun z => eqT z (.str s) with
        | true => simp (config := {implicitDefEqProofs := false}) only [evSs_nil, nx_nx, nx_rt, evS.eq_1, evS.eq_2, evS.eq_3, evS.eq_4, evS.eq_5, evS.eq_6, evS.eq_7, evS_for, evS.eq_9, evS.eq_10, evS.eq_11, evS.eq_12, evS.eq_13, evS.eq_14, evE, evEs, evO, evC, evI, R.bind_ok, R.bind_exc, R.q_ok, R.q_exc, R.of_some, R.nox_ok, Q.bind_nx, Q.bind_rt, Q.bind_bk, Q.bind_ct, Q.bind_exc, fin_rt, fin_nx, fin_exc, List.getElem?_cons_zero, List.getElem?_cons_succ, List.set_cons_zero, List.set_cons_succ, asgT, asgTs, lstOf, wipeS, srcOf, lstV, if_true, if_false, Bool.false_eq_true, Bool.true_eq_false, Bool.not_true, Bool.not_false, decide_true, decide_false, t_bl, t_int, t_non, t_tup, t_lst, c_lt, c_le, c_gt, c_ge, c_eqi, c_nei, c_eqs, c_nes, c_isN, c_isnN, c_isB, c_isnB, b_add, b_sub, ix_tup, ix_frz, ix_scr, at0, at1, isTys_nil, isTys_cons, ty_int_non, ty_int_bl, ty_int_int, ty_int_str, ty_int_tup, ty_int_lst, ty_int_dic, ty_bool_non, ty_bool_bl, ty_bool_int, ty_bool_str, ty_bool_tup, ty_bool_lst, ty_bool_dic, ty_str_non, ty_str_bl, ty_str_int, ty_str_str, ty_str_tup, ty_str_lst, ty_str_dic, ty_tuple_non, ty_tuple_bl, ty_tuple_int, ty_tuple_str, ty_tuple_tup, ty_tuple_lst, ty_tuple_dic, ty_list_non, ty_list_bl, ty_list_int, ty_list_str, ty_list_tup, ty_list_lst, ty_list_dic, ty_dict_non, ty_dict_bl, ty_dict_int, ty_dict_str, ty_dict_tup, ty_dict_lst, ty_dict_dic, ty_err_exn, ty_own_exn, bi_len_scr, bi_len_tup, bi_len_lst, bi_tuple_lst, bi_tuple_tup, bi_list_lst, bi_list_tup, bi_max, bi_min, mt_append, mt_part, mt_split, mt_splitN, mt_join, sl_tup, sl_lst, seqV, end_raw, Option.bind_some, Option.map_some, chk_nil, List.append_nil, okR_ok, okQ_ok, c_ins, c_nins, Int.cast_ofNat_Int, List.length_cons, List.length_nil, List.cons.injEq, and_self, and_true, true_and, and_false, false_and, Nat.zero_add, not_true_eq_false, not_false_eq_true, Bool.true_and, Bool.and_true, Bool.false_and, Bool.and_false, Bool.true_or, Bool.or_true, Bool.false_or, Bool.or_false, beq_self_eq_true, eq_self, evSs, b_14, label5 (show 3 ≤ n by omega) ga, ea, end_pure0 (show pl 40 (.bl true) = true from rfl), c_in_ref hj (show pl 40 (.str s) = true from rfl) hp, el, secDue, secD, sSec, Nat.reduceBEq, Int.reduceBEq, String.reduceBEq, String.reduceEq, Nat.reduceEqDiff, reduceCtorEq, Int.reduceNeg, Int.reduceLT, Int.reduceLE, Int.reduceEq, Int.reduceAdd, Int.reduceSub, Nat.reduceLT, Nat.reduceLeDiff, Nat.reduceAdd, Nat.reduceSub, Nat.reduceEqDiff]
        | false =>
          cases b with
          | lst ls =>
            obtain ⟨hls, _⟩ := gb.lst
            have e6 : (6 : Int) < (ls.length : Nat) ↔ ¬ ls.length ≤ 6 := by omega
            by_cases h6 : ls.length ≤ 6
            · simp (config := {implicitDefEqProofs := false}) only [evSs_nil, nx_nx, nx_rt, evS.eq_1, evS.eq_2, evS.eq_3, evS.eq_4, evS.eq_5, evS.eq_6, evS.eq_7, evS_for, evS.eq_9, evS.eq_10, evS.eq_11, evS.eq_12, evS.eq_13, evS.eq_14, evE, evEs, evO, evC, evI, R.bind_ok, R.bind_exc, R.q_ok, R.q_exc, R.of_some, R.nox_ok, Q.bind_nx, Q.bind_rt, Q.bind_bk, Q.bind_ct, Q.bind_exc, fin_rt, fin_nx, fin_exc, List.getElem?_cons_zero, List.getElem?_cons_succ, List.set_cons_zero, List.set_cons_succ, asgT, asgTs, lstOf, wipeS, srcOf, lstV, if_true, if_false, Bool.false_eq_true, Bool.true_eq_false, Bool.not_true, Bool.not_false, decide_true, decide_false, t_bl, t_int, t_non, t_tup, t_lst, c_lt, c_le, c_gt, c_ge, c_eqi, c_nei, c_eqs, c_nes, c_isN, c_isnN, c_isB, c_isnB, b_add, b_sub, ix_tup, ix_frz, ix_scr, at0, at1, isTys_nil, isTys_cons, ty_int_non, ty_int_bl, ty_int_int, ty_int_str, ty_int_tup, ty_int_lst, ty_int_dic, ty_bool_non, ty_bool_bl, ty_bool_int, ty_bool_str, ty_bool_tup, ty_bool_lst, ty_bool_dic, ty_str_non, ty_str_bl, ty_str_int, ty_str_str, ty_str_tup, ty_str_lst, ty_str_dic, ty_tuple_non, ty_tuple_bl, ty_tuple_int, ty_tuple_str, ty_tuple_tup, ty_tuple_lst, ty_tuple_dic, ty_list_non, ty_list_bl, ty_list_int, ty_list_str, ty_list_tup, ty_list_lst, ty_list_dic, ty_dict_non, ty_dict_bl, ty_dict_int, ty_dict_str, ty_dict_tup, ty_dict_lst, ty_dict_dic, ty_err_exn, ty_own_exn, bi_len_scr, bi_len_tup, bi_len_lst, bi_tuple_lst, bi_tuple_tup, bi_list_lst, bi_list_tup, bi_max, bi_min, mt_append, mt_part, mt_split, mt_splitN, mt_join, sl_tup, sl_lst, seqV, end_raw, Option.bind_some, Option.map_some, chk_nil, List.append_nil, okR_ok, okQ_ok, c_ins, c_nins, Int.cast_ofNat_Int, List.length_cons, List.length_nil, List.cons.injEq, and_self, and_true, true_and, and_false, false_and, Nat.zero_add, not_true_eq_false, not_false_eq_true, Bool.true_and, Bool.and_true, Bool.false_and, Bool.and_false, Bool.true_or, Bool.or_true, Bool.false_or, Bool.or_false, beq_self_eq_true, eq_self, evSs, b_14, label5 (show 3 ≤ n by omega) ga, ea, end_pure0 (show pl 40 (.bl true) = true from rfl), c_in_ref hj (show pl 40 (.str s) = true from rfl) hp, el, e6, h6, secDue, lineDue, Nat.reduceBEq, Int.reduceBEq, String.reduceBEq, String.reduceEq, Nat.reduceEqDiff, reduceCtorEq, Int.reduceNeg, Int.reduceLT, Int.reduceLE, Int.reduceEq, Int.reduceAdd, Int.reduceSub, Nat.reduceLT, Nat.reduceLeDiff, Nat.reduceAdd, Nat.reduceSub, Nat.reduceEqDiff]
              have key := lines_loop (f := forF gl (callN gl Fs n) (.tp [.nm 3, .nm 4]) [.ite (.not (.call 8 [.var 4] .pure)) [.ret (some (.tup [.cst (.str [108, 105, 110, 101]), .tup [.var 0, .var 3]]))] []]) (h := h)
                (Pb := fun i q => ∃ sl, q = .ok (.rt (.tup [.str sLine, .tup [.int num, .int i]])) sl h) (mk := fun a4 a5 => [some (.int num), some (.tup [.str s, .lst ls]), some (.ref j), a4, a5]) ls 0 none none
                (fun i l a4 a5 hl e => by simp (config := {implicitDefEqProofs := false}) only [evSs_nil, nx_nx, nx_rt, evS.eq_1, evS.eq_2, evS.eq_3, evS.eq_4, evS.eq_5, evS.eq_6, evS.eq_7, evS_for, evS.eq_9, evS.eq_10, evS.eq_11, evS.eq_12, evS.eq_13, evS.eq_14, evE, evEs, evO, evC, evI, R.bind_ok, R.bind_exc, R.q_ok, R.q_exc, R.of_some, R.nox_ok, Q.bind_nx, Q.bind_rt, Q.bind_bk, Q.bind_ct, Q.bind_exc, fin_rt, fin_nx, fin_exc, List.getElem?_cons_zero, List.getElem?_cons_succ, List.set_cons_zero, List.set_cons_succ, asgT, asgTs, lstOf, wipeS, srcOf, lstV, if_true, if_false, Bool.false_eq_true, Bool.true_eq_false, Bool.not_true, Bool.not_false, decide_true, decide_false, t_bl, t_int, t_non, t_tup, t_lst, c_lt, c_le, c_gt, c_ge, c_eqi, c_nei, c_eqs, c_nes, c_isN, c_isnN, c_isB, c_isnB, b_add, b_sub, ix_tup, ix_frz, ix_scr, at0, at1, isTys_nil, isTys_cons, ty_int_non, ty_int_bl, ty_int_int, ty_int_str, ty_int_tup, ty_int_lst, ty_int_dic, ty_bool_non, ty_bool_bl, ty_bool_int, ty_bool_str, ty_bool_tup, ty_bool_lst, ty_bool_dic, ty_str_non, ty_str_bl, ty_str_int, ty_str_str, ty_str_tup, ty_str_lst, ty_str_dic, ty_tuple_non, ty_tuple_bl, ty_tuple_int, ty_tuple_str, ty_tuple_tup, ty_tuple_lst, ty_tuple_dic, ty_list_non, ty_list_bl, ty_list_int, ty_list_str, ty_list_tup, ty_list_lst, ty_list_dic, ty_dict_non, ty_dict_bl, ty_dict_int, ty_dict_str, ty_dict_tup, ty_dict_lst, ty_dict_dic, ty_err_exn, ty_own_exn, bi_len_scr, bi_len_tup, bi_len_lst, bi_tuple_lst, bi_tuple_tup, bi_list_lst, bi_list_tup, bi_max, bi_min, mt_append, mt_part, mt_split, mt_splitN, mt_join, sl_tup, sl_lst, seqV, end_raw, Option.bind_some, Option.map_some, chk_nil, List.append_nil, okR_ok, okQ_ok, c_ins, c_nins, Int.cast_ofNat_Int, List.length_cons, List.length_nil, List.cons.injEq, and_self, and_true, true_and, and_false, false_and, Nat.zero_add, not_true_eq_false, not_false_eq_true, Bool.true_and, Bool.and_true, Bool.false_and, Bool.and_false, Bool.true_or, Bool.or_true, Bool.false_or, Bool.or_false, beq_self_eq_true, eq_self, evSs, forF, line8 (show 3 ≤ n by omega) (hls l hl), e, end_pure0 (show pl 40 (.bl true) = true from rfl), Nat.reduceBEq, Int.reduceBEq, String.reduceBEq, String.reduceEq, Nat.reduceEqDiff, reduceCtorEq, Int.reduceNeg, Int.reduceLT, Int.reduceLE, Int.reduceEq, Int.reduceAdd, Int.reduceSub, Nat.reduceLT, Nat.reduceLeDiff, Nat.reduceAdd, Nat.reduceSub, Nat.reduceEqDiff])
                (fun i l a4 a5 hl e => ⟨_, by simp (config := {implicitDefEqProofs := false}) only [evSs_nil, nx_nx, nx_rt, evS.eq_1, evS.eq_2, evS.eq_3, evS.eq_4, evS.eq_5, evS.eq_6, evS.eq_7, evS_for, evS.eq_9, evS.eq_10, evS.eq_11, evS.eq_12, evS.eq_13, evS.eq_14, evE, evEs, evO, evC, evI, R.bind_ok, R.bind_exc, R.q_ok, R.q_exc, R.of_some, R.nox_ok, Q.bind_nx, Q.bind_rt, Q.bind_bk, Q.bind_ct, Q.bind_exc, fin_rt, fin_nx, fin_exc, List.getElem?_cons_zero, List.getElem?_cons_succ, List.set_cons_zero, List.set_cons_succ, asgT, asgTs, lstOf, wipeS, srcOf, lstV, if_true, if_false, Bool.false_eq_true, Bool.true_eq_false, Bool.not_true, Bool.not_false, decide_true, decide_false, t_bl, t_int, t_non, t_tup, t_lst, c_lt, c_le, c_gt, c_ge, c_eqi, c_nei, c_eqs, c_nes, c_isN, c_isnN, c_isB, c_isnB, b_add, b_sub, ix_tup, ix_frz, ix_scr, at0, at1, isTys_nil, isTys_cons, ty_int_non, ty_int_bl, ty_int_int, ty_int_str, ty_int_tup, ty_int_lst, ty_int_dic, ty_bool_non, ty_bool_bl, ty_bool_int, ty_bool_str, ty_bool_tup, ty_bool_lst, ty_bool_dic, ty_str_non, ty_str_bl, ty_str_int, ty_str_str, ty_str_tup, ty_str_lst, ty_str_dic, ty_tuple_non, ty_tuple_bl, ty_tuple_int, ty_tuple_str, ty_tuple_tup, ty_tuple_lst, ty_tuple_dic, ty_list_non, ty_list_bl, ty_list_int, ty_list_str, ty_list_tup, ty_list_lst, ty_list_dic, ty_dict_non, ty_dict_bl, ty_dict_int, ty_dict_str, ty_dict_tup, ty_dict_lst, ty_dict_dic, ty_err_exn, ty_own_exn, bi_len_scr, bi_len_tup, bi_len_lst, bi_tuple_lst, bi_tuple_tup, bi_list_lst, bi_list_tup, bi_max, bi_min, mt_append, mt_part, mt_split, mt_splitN, mt_join, sl_tup, sl_lst, seqV, end_raw, Option.bind_some, Option.map_some, chk_nil, List.append_nil, okR_ok, okQ_ok, c_ins, c_nins, Int.cast_ofNat_Int, List.length_cons, List.length_nil, List.cons.injEq, and_self, and_true, true_and, and_false, false_and, Nat.zero_add, not_true_eq_false, not_false_eq_true, Bool.true_and, Bool.and_true, Bool.false_and, Bool.and_false, Bool.true_or, Bool.or_true, Bool.false_or, Bool.or_false, beq_self_eq_true, eq_self, evSs, forF, line8 (show 3 ≤ n by omega) (hls l hl), e, end_pure0 (show pl 40 (.bl false) = true from rfl), sLine, Nat.reduceBEq, Int.reduceBEq, String.reduceBEq, String.reduceEq, Nat.reduceEqDiff, reduceCtorEq, Int.reduceNeg, Int.reduceLT, Int.reduceLE, Int.reduceEq, Int.reduceAdd, Int.reduceSub, Nat.reduceLT, Nat.reduceLeDiff, Nat.reduceAdd, Nat.reduceSub, Nat.reduceEqDiff]; rfl⟩)
                (fun i q ⟨sl, e⟩ => .inr ⟨_, _, _, e⟩)
              rcases key with ⟨e, b4, b5, q⟩ | ⟨i, e, sl, q⟩
              · rw [q]
                simp (config := {implicitDefEqProofs := false}) only [evSs_nil, nx_nx, nx_rt, evS.eq_1, evS.eq_2, evS.eq_3, evS.eq_4, evS.eq_5, evS.eq_6, evS.eq_7, evS_for, evS.eq_9, evS.eq_10, evS.eq_11, evS.eq_12, evS.eq_13, evS.eq_14, evE, evEs, evO, evC, evI, R.bind_ok, R.bind_exc, R.q_ok, R.q_exc, R.of_some, R.nox_ok, Q.bind_nx, Q.bind_rt, Q.bind_bk, Q.bind_ct, Q.bind_exc, fin_rt, fin_nx, fin_exc, List.getElem?_cons_zero, List.getElem?_cons_succ, List.set_cons_zero, List.set_cons_succ, asgT, asgTs, lstOf, wipeS, srcOf, lstV, if_true, if_false, Bool.false_eq_true, Bool.true_eq_false, Bool.not_true, Bool.not_false, decide_true, decide_false, t_bl, t_int, t_non, t_tup, t_lst, c_lt, c_le, c_gt, c_ge, c_eqi, c_nei, c_eqs, c_nes, c_isN, c_isnN, c_isB, c_isnB, b_add, b_sub, ix_tup, ix_frz, ix_scr, at0, at1, isTys_nil, isTys_cons, ty_int_non, ty_int_bl, ty_int_int, ty_int_str, ty_int_tup, ty_int_lst, ty_int_dic, ty_bool_non, ty_bool_bl, ty_bool_int, ty_bool_str, ty_bool_tup, ty_bool_lst, ty_bool_dic, ty_str_non, ty_str_bl, ty_str_int, ty_str_str, ty_str_tup, ty_str_lst, ty_str_dic, ty_tuple_non, ty_tuple_bl, ty_tuple_int, ty_tuple_str, ty_tuple_tup, ty_tuple_lst, ty_tuple_dic, ty_list_non, ty_list_bl, ty_list_int, ty_list_str, ty_list_tup, ty_list_lst, ty_list_dic, ty_dict_non, ty_dict_bl, ty_dict_int, ty_dict_str, ty_dict_tup, ty_dict_lst, ty_dict_dic, ty_err_exn, ty_own_exn, bi_len_scr, bi_len_tup, bi_len_lst, bi_tuple_lst, bi_tuple_tup, bi_list_lst, bi_list_tup, bi_max, bi_min, mt_append, mt_part, mt_split, mt_splitN, mt_join, sl_tup, sl_lst, seqV, end_raw, Option.bind_some, Option.map_some, chk_nil, List.append_nil, okR_ok, okQ_ok, c_ins, c_nins, Int.cast_ofNat_Int, List.length_cons, List.length_nil, List.cons.injEq, and_self, and_true, true_and, and_false, false_and, Nat.zero_add, not_true_eq_false, not_false_eq_true, Bool.true_and, Bool.and_true, Bool.false_and, Bool.and_false, Bool.true_or, Bool.or_true, Bool.false_or, Bool.or_false, beq_self_eq_true, eq_self, e, evSs, Nat.reduceBEq, Int.reduceBEq, String.reduceBEq, String.reduceEq, Nat.reduceEqDiff, reduceCtorEq, Int.reduceNeg, Int.reduceLT, Int.reduceLE, Int.reduceEq, Int.reduceAdd, Int.reduceSub, Nat.reduceLT, Nat.reduceLeDiff, Nat.reduceAdd, Nat.reduceSub, Nat.reduceEqDiff]
              · rw [q]
                simp (config := {implicitDefEqProofs := false}) only [evSs_nil, nx_nx, nx_rt, evS.eq_1, evS.eq_2, evS.eq_3, evS.eq_4, evS.eq_5, evS.eq_6, evS.eq_7, evS_for, evS.eq_9, evS.eq_10, evS.eq_11, evS.eq_12, evS.eq_13, evS.eq_14, evE, evEs, evO, evC, evI, R.bind_ok, R.bind_exc, R.q_ok, R.q_exc, R.of_some, R.nox_ok, Q.bind_nx, Q.bind_rt, Q.bind_bk, Q.bind_ct, Q.bind_exc, fin_rt, fin_nx, fin_exc, List.getElem?_cons_zero, List.getElem?_cons_succ, List.set_cons_zero, List.set_cons_succ, asgT, asgTs, lstOf, wipeS, srcOf, lstV, if_true, if_false, Bool.false_eq_true, Bool.true_eq_false, Bool.not_true, Bool.not_false, decide_true, decide_false, t_bl, t_int, t_non, t_tup, t_lst, c_lt, c_le, c_gt, c_ge, c_eqi, c_nei, c_eqs, c_nes, c_isN, c_isnN, c_isB, c_isnB, b_add, b_sub, ix_tup, ix_frz, ix_scr, at0, at1, isTys_nil, isTys_cons, ty_int_non, ty_int_bl, ty_int_int, ty_int_str, ty_int_tup, ty_int_lst, ty_int_dic, ty_bool_non, ty_bool_bl, ty_bool_int, ty_bool_str, ty_bool_tup, ty_bool_lst, ty_bool_dic, ty_str_non, ty_str_bl, ty_str_int, ty_str_str, ty_str_tup, ty_str_lst, ty_str_dic, ty_tuple_non, ty_tuple_bl, ty_tuple_int, ty_tuple_str, ty_tuple_tup, ty_tuple_lst, ty_tuple_dic, ty_list_non, ty_list_bl, ty_list_int, ty_list_str, ty_list_tup, ty_list_lst, ty_list_dic, ty_dict_non, ty_dict_bl, ty_dict_int, ty_dict_str, ty_dict_tup, ty_dict_lst, ty_dict_dic, ty_err_exn, ty_own_exn, bi_len_scr, bi_len_tup, bi_len_lst, bi_tuple_lst, bi_tuple_tup, bi_list_lst, bi_list_tup, bi_max, bi_min, mt_append, mt_part, mt_split, mt_splitN, mt_join, sl_tup, sl_lst, seqV, end_raw, Option.bind_some, Option.map_some, chk_nil, List.append_nil, okR_ok, okQ_ok, c_ins, c_nins, Int.cast_ofNat_Int, List.length_cons, List.length_nil, List.cons.injEq, and_self, and_true, true_and, and_false, false_and, Nat.zero_add, not_true_eq_false, not_false_eq_true, Bool.true_and, Bool.and_true, Bool.false_and, Bool.and_false, Bool.true_or, Bool.or_true, Bool.false_or, Bool.or_false, beq_self_eq_true, eq_self, e, evSs, Nat.reduceBEq, Int.reduceBEq, String.reduceBEq, String.reduceEq, Nat.reduceEqDiff, reduceCtorEq, Int.reduceNeg, Int.reduceLT, Int.reduceLE, Int.reduceEq, Int.reduceAdd, Int.reduceSub, Nat.reduceLT, Nat.reduceLeDiff, Nat.reduceAdd, Nat.reduceSub, Nat.reduceEqDiff]
            · simp (config := {implicitDefEqProofs := false}) only [evSs_nil, nx_nx, nx_rt, evS.eq_1, evS.eq_2, evS.eq_3, evS.eq_4, evS.eq_5, evS.eq_6, evS.eq_7, evS_for, evS.eq_9, evS.eq_10, evS.eq_11, evS.eq_12, evS.eq_13, evS.eq_14, evE, evEs, evO, evC, evI, R.bind_ok, R.bind_exc, R.q_ok, R.q_exc, R.of_some, R.nox_ok, Q.bind_nx, Q.bind_rt, Q.bind_bk, Q.bind_ct, Q.bind_exc, fin_rt, fin_nx, fin_exc, List.getElem?_cons_zero, List.getElem?_cons_succ, List.set_cons_zero, List.set_cons_succ, asgT, asgTs, lstOf, wipeS, srcOf, lstV, if_true, if_false, Bool.false_eq_true, Bool.true_eq_false, Bool.not_true, Bool.not_false, decide_true, decide_false, t_bl, t_int, t_non, t_tup, t_lst, c_lt, c_le, c_gt, c_ge, c_eqi, c_nei, c_eqs, c_nes, c_isN, c_isnN, c_isB, c_isnB, b_add, b_sub, ix_tup, ix_frz, ix_scr, at0, at1, isTys_nil, isTys_cons, ty_int_non, ty_int_bl, ty_int_int, ty_int_str, ty_int_tup, ty_int_lst, ty_int_dic, ty_bool_non, ty_bool_bl, ty_bool_int, ty_bool_str, ty_bool_tup, ty_bool_lst, ty_bool_dic, ty_str_non, ty_str_bl, ty_str_int, ty_str_str, ty_str_tup, ty_str_lst, ty_str_dic, ty_tuple_non, ty_tuple_bl, ty_tuple_int, ty_tuple_str, ty_tuple_tup, ty_tuple_lst, ty_tuple_dic, ty_list_non, ty_list_bl, ty_list_int, ty_list_str, ty_list_tup, ty_list_lst, ty_list_dic, ty_dict_non, ty_dict_bl, ty_dict_int, ty_dict_str, ty_dict_tup, ty_dict_lst, ty_dict_dic, ty_err_exn, ty_own_exn, bi_len_scr, bi_len_tup, bi_len_lst, bi_tuple_lst, bi_tuple_tup, bi_list_lst, bi_list_tup, bi_max, bi_min, mt_append, mt_part, mt_split, mt_splitN, mt_join, sl_tup, sl_lst, seqV, end_raw, Option.bind_some, Option.map_some, chk_nil, List.append_nil, okR_ok, okQ_ok, c_ins, c_nins, Int.cast_ofNat_Int, List.length_cons, List.length_nil, List.cons.injEq, and_self, and_true, true_and, and_false, false_and, Nat.zero_add, not_true_eq_false, not_false_eq_true, Bool.true_and, Bool.and_true, Bool.false_and, Bool.and_false, Bool.true_or, Bool.or_true, Bool.false_or, Bool.or_false, beq_self_eq_true, eq_self, evSs, b_14, label5 (show 3 ≤ n by omega) ga, ea, end_pure0 (show pl 40 (.bl true) = true from rfl), c_in_ref hj (show pl 40 (.str s) = true from rfl) hp, el, e6, h6, secDue, secD, sSec, Nat.reduceBEq, Int.reduceBEq, String.reduceBEq, String.reduceEq, Nat.reduceEqDiff, reduceCtorEq, Int.reduceNeg, Int.reduceLT, Int.reduceLE, Int.reduceEq, Int.reduceAdd, Int.reduceSub, Nat.reduceLT, Nat.reduceLeDiff, Nat.reduceAdd, Nat.reduceSub, Nat.reduceEqDiff]
          | _ => first | (cases gb.1; done) | (simp (config := {implicitDefEqProofs := false}) only [evSs_nil, nx_nx, nx_rt, evS.eq_1, evS.eq_2, evS.eq_3, evS.eq_4, evS.eq_5, evS.eq_6, evS.eq_7, evS_for, evS.eq_9, evS.eq_10, evS.eq_11, evS.eq_12, evS.eq_13, evS.eq_14, evE, evEs, evO, evC, evI, R.bind_ok, R.bind_exc, R.q_ok, R.q_exc, R.of_some, R.nox_ok, Q.bind_nx, Q.bind_rt, Q.bind_bk, Q.bind_ct, Q.bind_exc, fin_rt, fin_nx, fin_exc, List.getElem?_cons_zero, List.getElem?_cons_succ, List.set_cons_zero, List.set_cons_succ, asgT, asgTs, lstOf, wipeS, srcOf, lstV, if_true, if_false, Bool.false_eq_true, Bool.true_eq_false, Bool.not_true, Bool.not_false, decide_true, decide_false, t_bl, t_int, t_non, t_tup, t_lst, c_lt, c_le, c_gt, c_ge, c_eqi, c_nei, c_eqs, c_nes, c_isN, c_isnN, c_isB, c_isnB, b_add, b_sub, ix_tup, ix_frz, ix_scr, at0, at1, isTys_nil, isTys_cons, ty_int_non, ty_int_bl, ty_int_int, ty_int_str, ty_int_tup, ty_int_lst, ty_int_dic, ty_bool_non, ty_bool_bl, ty_bool_int, ty_bool_str, ty_bool_tup, ty_bool_lst, ty_bool_dic, ty_str_non, ty_str_bl, ty_str_int, ty_str_str, ty_str_tup, ty_str_lst, ty_str_dic, ty_tuple_non, ty_tuple_bl, ty_tuple_int, ty_tuple_str, ty_tuple_tup, ty_tuple_lst, ty_tuple_dic, ty_list_non, ty_list_bl, ty_list_int, ty_list_str, ty_list_tup, ty_list_lst, ty_list_dic, ty_dict_non, ty_dict_bl, ty_dict_int, ty_dict_str, ty_dict_tup, ty_dict_lst, ty_dict_dic, ty_err_exn, ty_own_exn, bi_len_scr, bi_len_tup, bi_len_lst, bi_tuple_lst, bi_tuple_tup, bi_list_lst, bi_list_tup, bi_max, bi_min, mt_append, mt_part, mt_split, mt_splitN, mt_join, sl_tup, sl_lst, seqV, end_raw, Option.bind_some, Option.map_some, chk_nil, List.append_nil, okR_ok, okQ_ok, c_ins, c_nins, Int.cast_ofNat_Int, List.length_cons, List.length_nil, List.cons.injEq, and_self, and_true, true_and, and_false, false_and, Nat.zero_add, not_true_eq_false, not_false_eq_true, Bool.true_and, Bool.and_true, Bool.false_and, Bool.and_false, Bool.true_or, Bool.or_true, Bool.false_or, Bool.or_false, beq_self_eq_true, eq_self, evSs, b_14, label5 (show 3 ≤ n by omega) ga, ea, end_pure0 (show pl 40 (.bl true) = true from rfl), c_in_ref hj (show pl 40 (.str s) = true from rfl) hp, el, secDue, secD, sSec, Nat.reduceBEq, Int.reduceBEq, String.reduceBEq, String.reduceEq, Nat.reduceEqDiff, reduceCtorEq, Int.reduceNeg, Int.reduceLT, Int.reduceLE, Int.reduceEq, Int.reduceAdd, Int.reduceSub, Nat.reduceLT, Nat.reduceLeDiff, Nat.reduceAdd, Nat.reduceSub, Nat.reduceEqDiff])
    · have e2 : ((xs.length : Nat) : Int) = 2 ↔ False := ⟨fun z => h2 (by omega), False.elim⟩
      have e3 : secDue num (.tup xs) labs = secD num := by
        unfold secDue
        split
        · rename_i z; cases z; exact absurd rfl h2
        · rfl
      simp (config := {implicitDefEqProofs := false}) only [evSs_nil, nx_nx, nx_rt, evS.eq_1, evS.eq_2, evS.eq_3, evS.eq_4, evS.eq_5, evS.eq_6, evS.eq_7, evS_for, evS.eq_9, evS.eq_10, evS.eq_11, evS.eq_12, evS.eq_13, evS.eq_14, evE, evEs, evO, evC, evI, R.bind_ok, R.bind_exc, R.q_ok, R.q_exc, R.of_some, R.nox_ok, Q.bind_nx, Q.bind_rt, Q.bind_bk, Q.bind_ct, Q.bind_exc, fin_rt, fin_nx, fin_exc, List.getElem?_cons_zero, List.getElem?_cons_succ, List.set_cons_zero, List.set_cons_succ, asgT, asgTs, lstOf, wipeS, srcOf, lstV, if_true, if_false, Bool.false_eq_true, Bool.true_eq_false, Bool.not_true, Bool.not_false, decide_true, decide_false, t_bl, t_int, t_non, t_tup, t_lst, c_lt, c_le, c_gt, c_ge, c_eqi, c_nei, c_eqs, c_nes, c_isN, c_isnN, c_isB, c_isnB, b_add, b_sub, ix_tup, ix_frz, ix_scr, at0, at1, isTys_nil, isTys_cons, ty_int_non, ty_int_bl, ty_int_int, ty_int_str, ty_int_tup, ty_int_lst, ty_int_dic, ty_bool_non, ty_bool_bl, ty_bool_int, ty_bool_str, ty_bool_tup, ty_bool_lst, ty_bool_dic, ty_str_non, ty_str_bl, ty_str_int, ty_str_str, ty_str_tup, ty_str_lst, ty_str_dic, ty_tuple_non, ty_tuple_bl, ty_tuple_int, ty_tuple_str, ty_tuple_tup, ty_tuple_lst, ty_tuple_dic, ty_list_non, ty_list_bl, ty_list_int, ty_list_str, ty_list_tup, ty_list_lst, ty_list_dic, ty_dict_non, ty_dict_bl, ty_dict_int, ty_dict_str, ty_dict_tup, ty_dict_lst, ty_dict_dic, ty_err_exn, ty_own_exn, bi_len_scr, bi_len_tup, bi_len_lst, bi_tuple_lst, bi_tuple_tup, bi_list_lst, bi_list_tup, bi_max, bi_min, mt_append, mt_part, mt_split, mt_splitN, mt_join, sl_tup, sl_lst, seqV, end_raw, Option.bind_some, Option.map_some, chk_nil, List.append_nil, okR_ok, okQ_ok, c_ins, c_nins, Int.cast_ofNat_Int, List.length_cons, List.length_nil, List.cons.injEq, and_self, and_true, true_and, and_false, false_and, Nat.zero_add, not_true_eq_false, not_false_eq_true, Bool.true_and, Bool.and_true, Bool.false_and, Bool.and_false, Bool.true_or, Bool.or_true, Bool.false_or, Bool.or_false, beq_self_eq_true, eq_self, evSs, b_14, e2, e3, secD, sSec, Nat.reduceBEq, Int.reduceBEq, String.reduceBEq, String.reduceEq, Nat.reduceEqDiff, reduceCtorEq, Int.reduceNeg, Int.reduceLT, Int.reduceLE, Int.reduceEq, Int.reduceAdd, Int.reduceSub, Nat.reduceLT, Nat.reduceLeDiff, Nat.reduceAdd, Nat.reduceSub, Nat.reduceEqDiff]
  | _ => first | (cases hg.1; done) | (simp (config := {implicitDefEqProofs := false}) only [evSs_nil, nx_nx, nx_rt, evS.eq_1, evS.eq_2, evS.eq_3, evS.eq_4, evS.eq_5, evS.eq_6, evS.eq_7, evS_for, evS.eq_9, evS.eq_10, evS.eq_11, evS.eq_12, evS.eq_13, evS.eq_14, evE, evEs, evO, evC, evI, R.bind_ok, R.bind_exc, R.q_ok, R.q_exc, R.of_some, R.nox_ok, Q.bind_nx, Q.bind_rt, Q.bind_bk, Q.bind_ct, Q.bind_exc, fin_rt, fin_nx, fin_exc, List.getElem?_cons_zero, List.getElem?_cons_succ, List.set_cons_zero, List.set_cons_succ, asgT, asgTs, lstOf, wipeS, srcOf, lstV, if_true, if_false, Bool.false_eq_true, Bool.true_eq_false, Bool.not_true, Bool.not_false, decide_true, decide_false, t_bl, t_int, t_non, t_tup, t_lst, c_lt, c_le, c_gt, c_ge, c_eqi, c_nei, c_eqs, c_nes, c_isN, c_isnN, c_isB, c_isnB, b_add, b_sub, ix_tup, ix_frz, ix_scr, at0, at1, isTys_nil, isTys_cons, ty_int_non, ty_int_bl, ty_int_int, ty_int_str, ty_int_tup, ty_int_lst, ty_int_dic, ty_bool_non, ty_bool_bl, ty_bool_int, ty_bool_str, ty_bool_tup, ty_bool_lst, ty_bool_dic, ty_str_non, ty_str_bl, ty_str_int, ty_str_str, ty_str_tup, ty_str_lst, ty_str_dic, ty_tuple_non, ty_tuple_bl, ty_tuple_int, ty_tuple_str, ty_tuple_tup, ty_tuple_lst, ty_tuple_dic, ty_list_non, ty_list_bl, ty_list_int, ty_list_str, ty_list_tup, ty_list_lst, ty_list_dic, ty_dict_non, ty_dict_bl, ty_dict_int, ty_dict_str, ty_dict_tup, ty_dict_lst, ty_dict_dic, ty_err_exn, ty_own_exn, bi_len_scr, bi_len_tup, bi_len_lst, bi_tuple_lst, bi_tuple_tup, bi_list_lst, bi_list_tup, bi_max, bi_min, mt_append, mt_part, mt_split, mt_splitN, mt_join, sl_tup, sl_lst, seqV, end_raw, Option.bind_some, Option.map_some, chk_nil, List.append_nil, okR_ok, okQ_ok, c_ins, c_nins, Int.cast_ofNat_Int, List.length_cons, List.length_nil, List.cons.injEq, and_self, and_true, true_and, and_false, false_and, Nat.zero_add, not_true_eq_false, not_false_eq_true, Bool.true_and, Bool.and_true, Bool.false_and, Bool.and_false, Bool.true_or, Bool.or_true, Bool.false_or, Bool.or_false, beq_self_eq_true, eq_self, evSs, b_14, secDue, secD, sSec, Nat.reduceBEq, Int.reduceBEq, String.reduceBEq, String.reduceEq, Nat.reduceEqDiff, reduceCtorEq, Int.reduceNeg, Int.reduceLT, Int.reduceLE, Int.reduceEq, Int.reduceAdd, Int.reduceSub, Nat.reduceLT, Nat.reduceLeDiff, Nat.reduceAdd, Nat.reduceSub, Nat.reduceEqDiff])
/-! ### the sections -/
def firstOf : D → D
  | .tup (a :: _) => a
  | _ => .non
def secsDue : Int → List D → List D → D
  | _, [], _ => .non
  | num, s :: r, labs => match secDue num s labs with
    | .non => secsDue (num + 1) r (labs ++ [firstOf s])
    | d => d
/-- what a section's fault is -/
theorem secDue_form (num : Int) (sec : D) (labs : List D) : secDue num sec labs = .non ∧ (∃ s b, sec = .tup [.str s, b]) ∨ ∃ p q, secDue num sec labs = .tup [.str p, q] ∧ pl 39 q = true := by
  have hs : ∃ p q, secD num = .tup [.str p, q] ∧ pl 39 q = true := ⟨_, _, rfl, rfl⟩
  unfold secDue
  split
  · rename_i a b
    split
    · rename_i hl
      obtain ⟨s, rfl⟩ := label_str hl.1
      split
      · split
        · unfold lineDue
          split
          · exact .inl ⟨rfl, s, _, rfl⟩
          · exact .inr ⟨_, _, rfl, rfl⟩
        · exact .inr hs
      · exact .inr hs
    · exact .inr hs
  · exact .inr hs
theorem secs_loop {f : D → Sl → Hs → Q} {h0 : Hs} {src : Src} {k : Nat} {Pb : D → Q → Prop} {I : Sl → Prop} (hc : ∀ labs, chk src (h0 ++ [.lst labs]) = true) (hs : ∀ d q, Pb d q → Stops q) : ∀ (secs : List D) (num : Int) (labs : List D) (sl : Sl), I sl → (∀ s ∈ secs, Gd k s) → (∀ z ∈ labs, pl 40 z = true) → labs.length + secs.length ≤ 1000 →
    (∀ num sec labs sl, I sl → Gd k sec → (∀ z ∈ labs, pl 40 z = true) → labs.length < 1000 → (∃ s b, sec = .tup [.str s, b]) → secDue num sec labs = .non → ∃ sl', I sl' ∧ f (.tup [.int num, sec]) sl (h0 ++ [.lst labs]) = .ok .nx sl' (h0 ++ [.lst (labs ++ [firstOf sec])])) →
    (∀ num sec labs sl p q, I sl → Gd k sec → (∀ z ∈ labs, pl 40 z = true) → secDue num sec labs = .tup [.str p, q] → pl 39 q = true → Pb (.tup [.str p, q]) (f (.tup [.int num, sec]) sl (h0 ++ [.lst labs]))) →
    (secsDue num secs labs = .non ∧ ∃ sl' labs', I sl' ∧ forL src f (enumL num secs) sl (h0 ++ [.lst labs]) = .ok .nx sl' (h0 ++ [.lst labs'])) ∨ ∃ p q, secsDue num secs labs = .tup [.str p, q] ∧ pl 39 q = true ∧ Pb (.tup [.str p, q]) (forL src f (enumL num secs) sl (h0 ++ [.lst labs]))
  | [], num, labs, sl, hi, _, _, _, _, _ => .inl ⟨rfl, sl, labs, hi, by simp only [enumL, forL]; rw [if_pos (hc labs)]⟩
  | s :: secs, num, labs, sl, hi, hg, hp, hl, h1, h2 => by
    have gs := hg s (List.mem_cons_self ..)
    simp only [List.length_cons] at hl
    rcases secDue_form num s labs with ⟨e, hf⟩ | ⟨p, q, e, hq⟩
    · obtain ⟨sl', hi', e2⟩ := h1 num s labs sl hi gs hp (by omega) hf e
      have hd : secsDue num (s :: secs) labs = secsDue (num + 1) secs (labs ++ [firstOf s]) := by simp only [secsDue, e]
      rw [hd]
      simp only [enumL]
      rw [forL_go (hc labs) e2]
      refine secs_loop hc hs secs (num + 1) (labs ++ [firstOf s]) sl' hi' (fun z hz => hg z (List.mem_cons_of_mem _ hz)) (fun z hz => ?_) (by simp only [List.length_append, List.length_cons, List.length_nil]; omega) h1 h2
      rcases List.mem_append.mp hz with hz | hz
      · exact hp z hz
      · rw [List.mem_singleton.mp hz]
        obtain ⟨t, b, rfl⟩ := hf
        rfl
    · have pq := h2 num s labs sl p q hi gs hp e hq
      refine .inr ⟨p, q, by simp only [secsDue, e], hq, ?_⟩
      simp only [enumL]
      rw [forL_stop (hc labs) (hs _ _ pq)]
      exact pq
theorem end_pureF {h : Hs} {c : Nat} {fs : List D} (q : ∀ x ∈ fs, pl 40 x = true) (t : Hs) : endCall .pure h (.exc c fs (h ++ t)) = .exc c fs h := by
  have e : (h ++ t).take h.length = h := by simp
  simp only [endCall]
  rw [if_pos e, mapO_id fun x hx => frz_pl (q x hx)]
theorem end_pureF0 {h : Hs} {c : Nat} {fs : List D} (q : ∀ x ∈ fs, pl 40 x = true) : endCall .pure h (.exc c fs h) = .exc c fs h := by
  have := end_pureF (h := h) (c := c) q []
  rwa [List.append_nil] at this
/-! ### the act -/
def noneD (p : List Nat) : D := .tup [.str p, .non]
def sForm : List Nat := [102, 111, 114, 109]
def sName : List Nat := [110, 97, 109, 101]
def sDay : List Nat := [100, 97, 121]
def sSecs : List Nat := [115, 101, 99, 116, 105, 111, 110, 115]
def actDue (h : Hs) (v : D) : D := match v with
  | .tup [a, b, c] => if isName a = true then (if isDay b = true then (match lstV h c with
    | some secs => if secs.length ≤ 8 then secsDue 0 secs [] else noneD sSecs
    | none => noneD sSecs) else noneD sDay) else noneD sName
  | _ => noneD sForm
/-- a value that may be asked for: its sections may stand in a node -/
structure Ok (h : Hs) (k : Nat) (v : D) : Prop where
  ex : Gd (k + 4) v ∨ (∃ a b i secs, v = .tup [a, b, .ref i] ∧ Gd (k + 3) a ∧ Gd (k + 3) b ∧ h[i]? = some (.lst secs) ∧ (∀ s ∈ secs, Gd (k + 2) s)) ∨ (∃ xs, v = .lst xs) ∨ ∃ xs, v = .tup xs ∧ xs.length ≠ 3
theorem name3 {n : Nat} (hn : 2 ≤ n) {l : D} {k : Nat} (hl : Gd k l) (h : Hs) : callN gl Fs n 3 [l] h = .ok (.bl (isName l)) h := name_ok hn (fw := 2) (kw := 0) (le := 1) (di := 2) (ml := 3) rfl rfl ⟨rfl, rfl, rfl, rfl⟩ hl.tm hl.shl h
theorem day6 {n : Nat} (hn : 3 ≤ n) {l : D} {k : Nat} (hl : Gd k l) (h : Hs) : callN gl Fs n 6 [l] h = .ok (.bl (isDay l)) h := day_ok hn (fi := 0) (fr := 1) (gd := 5) rfl rfl rfl rfl hl.tm h
/-- the sections, in validate_act -/
theorem vsecs {n k : Nat} (hn : 5 ≤ n) {h : Hs} {secs : List D} {src : Src} {a0 a1 a2 a3 : Option D} (hc : ∀ labs, chk src (h ++ [.lst labs]) = true) (hg : ∀ s ∈ secs, Gd (k + 2) s) (hl : secs.length ≤ 8) :
    (secsDue 0 secs [] = .non ∧ ∃ sl' labs', forL src (forF gl (callN gl Fs n) (.tp [.nm 5, .nm 6]) [.ex (.call 9 [.var 5, .var 6, .var 4] .pure), .ex (.mt .append (.var 4) [.ix (.var 6) (.cst (.int 0))])]) (enumL 0 secs) [a0, a1, a2, a3, some (.ref h.length), none, none] (h ++ [.lst []]) = .ok .nx sl' (h ++ [.lst labs'])) ∨
    ∃ p q, secsDue 0 secs [] = .tup [.str p, q] ∧ pl 39 q = true ∧ ∃ sl' labs', forL src (forF gl (callN gl Fs n) (.tp [.nm 5, .nm 6]) [.ex (.call 9 [.var 5, .var 6, .var 4] .pure), .ex (.mt .append (.var 4) [.ix (.var 6) (.cst (.int 0))])]) (enumL 0 secs) [a0, a1, a2, a3, some (.ref h.length), none, none] (h ++ [.lst []]) = .exc 1 [.str p, q] sl' (h ++ [.lst labs']) := by
  have gj : ∀ labs : List D, (h ++ [Nd.lst labs])[h.length]? = some (.lst labs) := fun labs => by simp
  have sj : ∀ labs labs' : List D, (h ++ [Nd.lst labs]).set h.length (.lst labs') = h ++ [.lst labs'] := fun labs labs' => by simp
  refine Or.imp ?_ ?_ (secs_loop (f := forF gl (callN gl Fs n) (.tp [.nm 5, .nm 6]) [.ex (.call 9 [.var 5, .var 6, .var 4] .pure), .ex (.mt .append (.var 4) [.ix (.var 6) (.cst (.int 0))])]) (h0 := h) (src := src) (k := k + 2)
    (Pb := fun d q => ∃ p r sl labs', d = .tup [.str p, r] ∧ q = .exc 1 [.str p, r] sl (h ++ [.lst labs'])) (I := fun sl => ∃ a5 a6, sl = [a0, a1, a2, a3, some (.ref h.length), a5, a6]) hc
    (fun d q ⟨p, r, sl, labs', _, e⟩ => .inl ⟨_, _, _, _, e⟩) secs 0 [] _ ⟨none, none, rfl⟩ hg (by simp) (by simp only [List.length_nil]; omega) ?_ ?_)
  · rintro ⟨e, sl', labs', _, e2⟩
    exact ⟨e, sl', labs', e2⟩
  · rintro ⟨p, q, e, hq, p', r', sl', labs', e3, e4⟩
    cases e3
    exact ⟨_, _, e, hq, sl', labs', e4⟩
  · rintro num sec labs sl ⟨a5, a6, rfl⟩ gs hp hll ⟨t, b, rfl⟩ e
    refine ⟨_, ⟨some (.int num), some (.tup [.str t, b]), rfl⟩, ?_⟩
    simp (config := {implicitDefEqProofs := false}) only [evSs_nil, nx_nx, nx_rt, evS.eq_1, evS.eq_2, evS.eq_3, evS.eq_4, evS.eq_5, evS.eq_6, evS.eq_7, evS_for, evS.eq_9, evS.eq_10, evS.eq_11, evS.eq_12, evS.eq_13, evS.eq_14, evE, evEs, evO, evC, evI, R.bind_ok, R.bind_exc, R.q_ok, R.q_exc, R.of_some, R.nox_ok, Q.bind_nx, Q.bind_rt, Q.bind_bk, Q.bind_ct, Q.bind_exc, fin_rt, fin_nx, fin_exc, List.getElem?_cons_zero, List.getElem?_cons_succ, List.set_cons_zero, List.set_cons_succ, asgT, asgTs, lstOf, wipeS, srcOf, lstV, if_true, if_false, Bool.false_eq_true, Bool.true_eq_false, Bool.not_true, Bool.not_false, decide_true, decide_false, t_bl, t_int, t_non, t_tup, t_lst, c_lt, c_le, c_gt, c_ge, c_eqi, c_nei, c_eqs, c_nes, c_isN, c_isnN, c_isB, c_isnB, b_add, b_sub, ix_tup, ix_frz, ix_scr, at0, at1, isTys_nil, isTys_cons, ty_int_non, ty_int_bl, ty_int_int, ty_int_str, ty_int_tup, ty_int_lst, ty_int_dic, ty_bool_non, ty_bool_bl, ty_bool_int, ty_bool_str, ty_bool_tup, ty_bool_lst, ty_bool_dic, ty_str_non, ty_str_bl, ty_str_int, ty_str_str, ty_str_tup, ty_str_lst, ty_str_dic, ty_tuple_non, ty_tuple_bl, ty_tuple_int, ty_tuple_str, ty_tuple_tup, ty_tuple_lst, ty_tuple_dic, ty_list_non, ty_list_bl, ty_list_int, ty_list_str, ty_list_tup, ty_list_lst, ty_list_dic, ty_dict_non, ty_dict_bl, ty_dict_int, ty_dict_str, ty_dict_tup, ty_dict_lst, ty_dict_dic, ty_err_exn, ty_own_exn, bi_len_scr, bi_len_tup, bi_len_lst, bi_tuple_lst, bi_tuple_tup, bi_list_lst, bi_list_tup, bi_max, bi_min, mt_append, mt_part, mt_split, mt_splitN, mt_join, sl_tup, sl_lst, seqV, end_raw, Option.bind_some, Option.map_some, chk_nil, List.append_nil, okR_ok, okQ_ok, c_ins, c_nins, Int.cast_ofNat_Int, List.length_cons, List.length_nil, List.cons.injEq, and_self, and_true, true_and, and_false, false_and, Nat.zero_add, not_true_eq_false, not_false_eq_true, Bool.true_and, Bool.and_true, Bool.false_and, Bool.and_false, Bool.true_or, Bool.or_true, Bool.false_or, Bool.or_false, beq_self_eq_true, eq_self, evSs, forF, vsec (show 5 ≤ n by omega) gs (gj labs) hp, e, outR, end_pure0 (show pl 40 .non = true from rfl), m_append (gj labs) (show labs.length < lim by unfold lim; omega), sj, firstOf, Nat.reduceBEq, Int.reduceBEq, String.reduceBEq, String.reduceEq, Nat.reduceEqDiff, reduceCtorEq, Int.reduceNeg, Int.reduceLT, Int.reduceLE, Int.reduceEq, Int.reduceAdd, Int.reduceSub, Nat.reduceLT, Nat.reduceLeDiff, Nat.reduceAdd, Nat.reduceSub, Nat.reduceEqDiff]
  · rintro num sec labs sl p q ⟨a5, a6, rfl⟩ gs hp e hq
    have hpl : ∀ x ∈ [D.str p, q], pl 40 x = true := fun x hx => by
      simp only [List.mem_cons, List.not_mem_nil, or_false] at hx
      rcases hx with rfl | rfl
      · rfl
      · exact pl_up hq
    refine ⟨p, q, [a0, a1, a2, a3, some (.ref h.length), some (.int num), some sec], labs, rfl, ?_⟩
    simp (config := {implicitDefEqProofs := false}) only [evSs_nil, nx_nx, nx_rt, evS.eq_1, evS.eq_2, evS.eq_3, evS.eq_4, evS.eq_5, evS.eq_6, evS.eq_7, evS_for, evS.eq_9, evS.eq_10, evS.eq_11, evS.eq_12, evS.eq_13, evS.eq_14, evE, evEs, evO, evC, evI, R.bind_ok, R.bind_exc, R.q_ok, R.q_exc, R.of_some, R.nox_ok, Q.bind_nx, Q.bind_rt, Q.bind_bk, Q.bind_ct, Q.bind_exc, fin_rt, fin_nx, fin_exc, List.getElem?_cons_zero, List.getElem?_cons_succ, List.set_cons_zero, List.set_cons_succ, asgT, asgTs, lstOf, wipeS, srcOf, lstV, if_true, if_false, Bool.false_eq_true, Bool.true_eq_false, Bool.not_true, Bool.not_false, decide_true, decide_false, t_bl, t_int, t_non, t_tup, t_lst, c_lt, c_le, c_gt, c_ge, c_eqi, c_nei, c_eqs, c_nes, c_isN, c_isnN, c_isB, c_isnB, b_add, b_sub, ix_tup, ix_frz, ix_scr, at0, at1, isTys_nil, isTys_cons, ty_int_non, ty_int_bl, ty_int_int, ty_int_str, ty_int_tup, ty_int_lst, ty_int_dic, ty_bool_non, ty_bool_bl, ty_bool_int, ty_bool_str, ty_bool_tup, ty_bool_lst, ty_bool_dic, ty_str_non, ty_str_bl, ty_str_int, ty_str_str, ty_str_tup, ty_str_lst, ty_str_dic, ty_tuple_non, ty_tuple_bl, ty_tuple_int, ty_tuple_str, ty_tuple_tup, ty_tuple_lst, ty_tuple_dic, ty_list_non, ty_list_bl, ty_list_int, ty_list_str, ty_list_tup, ty_list_lst, ty_list_dic, ty_dict_non, ty_dict_bl, ty_dict_int, ty_dict_str, ty_dict_tup, ty_dict_lst, ty_dict_dic, ty_err_exn, ty_own_exn, bi_len_scr, bi_len_tup, bi_len_lst, bi_tuple_lst, bi_tuple_tup, bi_list_lst, bi_list_tup, bi_max, bi_min, mt_append, mt_part, mt_split, mt_splitN, mt_join, sl_tup, sl_lst, seqV, end_raw, Option.bind_some, Option.map_some, chk_nil, List.append_nil, okR_ok, okQ_ok, c_ins, c_nins, Int.cast_ofNat_Int, List.length_cons, List.length_nil, List.cons.injEq, and_self, and_true, true_and, and_false, false_and, Nat.zero_add, not_true_eq_false, not_false_eq_true, Bool.true_and, Bool.and_true, Bool.false_and, Bool.and_false, Bool.true_or, Bool.or_true, Bool.false_or, Bool.or_false, beq_self_eq_true, eq_self, evSs, forF, vsec (show 5 ≤ n by omega) gs (gj labs) hp, e, outR, end_pureF0 hpl, Nat.reduceBEq, Int.reduceBEq, String.reduceBEq, String.reduceEq, Nat.reduceEqDiff, reduceCtorEq, Int.reduceNeg, Int.reduceLT, Int.reduceLE, Int.reduceEq, Int.reduceAdd, Int.reduceSub, Nat.reduceLT, Nat.reduceLeDiff, Nat.reduceAdd, Nat.reduceSub, Nat.reduceEqDiff]
/-- the sections, in the law's own validation -/
theorem lsecs {n k : Nat} (hn : 5 ≤ n) {h : Hs} {secs : List D} {src : Src} {a0 a1 a2 : Option D} (hc : ∀ labs, chk src (h ++ [.lst labs]) = true) (hg : ∀ s ∈ secs, Gd (k + 2) s) (hl : secs.length ≤ 8) :
    (secsDue 0 secs [] = .non ∧ ∃ sl' labs', forL src (forF gl (callN gl Fs n) (.tp [.nm 4, .nm 5]) [.asg (.nm 6) (.call 14 [.var 4, .var 5, .var 3] .pure), .ite (.cmp .IsNot (.var 6) (.cst .non)) [.ret (some (.var 6))] [], .ex (.mt .append (.var 3) [.ix (.var 5) (.cst (.int 0))])]) (enumL 0 secs) [a0, a1, a2, some (.ref h.length), none, none, none] (h ++ [.lst []]) = .ok .nx sl' (h ++ [.lst labs'])) ∨
    ∃ p q, secsDue 0 secs [] = .tup [.str p, q] ∧ pl 39 q = true ∧ ∃ sl' labs', forL src (forF gl (callN gl Fs n) (.tp [.nm 4, .nm 5]) [.asg (.nm 6) (.call 14 [.var 4, .var 5, .var 3] .pure), .ite (.cmp .IsNot (.var 6) (.cst .non)) [.ret (some (.var 6))] [], .ex (.mt .append (.var 3) [.ix (.var 5) (.cst (.int 0))])]) (enumL 0 secs) [a0, a1, a2, some (.ref h.length), none, none, none] (h ++ [.lst []]) = .ok (.rt (.tup [.str p, q])) sl' (h ++ [.lst labs']) := by
  have gj : ∀ labs : List D, (h ++ [Nd.lst labs])[h.length]? = some (.lst labs) := fun labs => by simp
  have sj : ∀ labs labs' : List D, (h ++ [Nd.lst labs]).set h.length (.lst labs') = h ++ [.lst labs'] := fun labs labs' => by simp
  refine Or.imp ?_ ?_ (secs_loop (f := forF gl (callN gl Fs n) (.tp [.nm 4, .nm 5]) [.asg (.nm 6) (.call 14 [.var 4, .var 5, .var 3] .pure), .ite (.cmp .IsNot (.var 6) (.cst .non)) [.ret (some (.var 6))] [], .ex (.mt .append (.var 3) [.ix (.var 5) (.cst (.int 0))])]) (h0 := h) (src := src) (k := k + 2)
    (Pb := fun d q => ∃ p r sl labs', d = .tup [.str p, r] ∧ q = .ok (.rt (.tup [.str p, r])) sl (h ++ [.lst labs'])) (I := fun sl => ∃ a4 a5 a6, sl = [a0, a1, a2, some (.ref h.length), a4, a5, a6]) hc
    (fun d q ⟨p, r, sl, labs', _, e⟩ => .inr ⟨_, _, _, e⟩) secs 0 [] _ ⟨none, none, none, rfl⟩ hg (by simp) (by simp only [List.length_nil]; omega) ?_ ?_)
  · rintro ⟨e, sl', labs', _, e2⟩
    exact ⟨e, sl', labs', e2⟩
  · rintro ⟨p, q, e, hq, p', r', sl', labs', e3, e4⟩
    cases e3
    exact ⟨_, _, e, hq, sl', labs', e4⟩
  · rintro num sec labs sl ⟨a4, a5, a6, rfl⟩ gs hp hll ⟨t, b, rfl⟩ e
    refine ⟨_, ⟨some (.int num), some (.tup [.str t, b]), some .non, rfl⟩, ?_⟩
    simp (config := {implicitDefEqProofs := false}) only [evSs_nil, nx_nx, nx_rt, evS.eq_1, evS.eq_2, evS.eq_3, evS.eq_4, evS.eq_5, evS.eq_6, evS.eq_7, evS_for, evS.eq_9, evS.eq_10, evS.eq_11, evS.eq_12, evS.eq_13, evS.eq_14, evE, evEs, evO, evC, evI, R.bind_ok, R.bind_exc, R.q_ok, R.q_exc, R.of_some, R.nox_ok, Q.bind_nx, Q.bind_rt, Q.bind_bk, Q.bind_ct, Q.bind_exc, fin_rt, fin_nx, fin_exc, List.getElem?_cons_zero, List.getElem?_cons_succ, List.set_cons_zero, List.set_cons_succ, asgT, asgTs, lstOf, wipeS, srcOf, lstV, if_true, if_false, Bool.false_eq_true, Bool.true_eq_false, Bool.not_true, Bool.not_false, decide_true, decide_false, t_bl, t_int, t_non, t_tup, t_lst, c_lt, c_le, c_gt, c_ge, c_eqi, c_nei, c_eqs, c_nes, c_isN, c_isnN, c_isB, c_isnB, b_add, b_sub, ix_tup, ix_frz, ix_scr, at0, at1, isTys_nil, isTys_cons, ty_int_non, ty_int_bl, ty_int_int, ty_int_str, ty_int_tup, ty_int_lst, ty_int_dic, ty_bool_non, ty_bool_bl, ty_bool_int, ty_bool_str, ty_bool_tup, ty_bool_lst, ty_bool_dic, ty_str_non, ty_str_bl, ty_str_int, ty_str_str, ty_str_tup, ty_str_lst, ty_str_dic, ty_tuple_non, ty_tuple_bl, ty_tuple_int, ty_tuple_str, ty_tuple_tup, ty_tuple_lst, ty_tuple_dic, ty_list_non, ty_list_bl, ty_list_int, ty_list_str, ty_list_tup, ty_list_lst, ty_list_dic, ty_dict_non, ty_dict_bl, ty_dict_int, ty_dict_str, ty_dict_tup, ty_dict_lst, ty_dict_dic, ty_err_exn, ty_own_exn, bi_len_scr, bi_len_tup, bi_len_lst, bi_tuple_lst, bi_tuple_tup, bi_list_lst, bi_list_tup, bi_max, bi_min, mt_append, mt_part, mt_split, mt_splitN, mt_join, sl_tup, sl_lst, seqV, end_raw, Option.bind_some, Option.map_some, chk_nil, List.append_nil, okR_ok, okQ_ok, c_ins, c_nins, Int.cast_ofNat_Int, List.length_cons, List.length_nil, List.cons.injEq, and_self, and_true, true_and, and_false, false_and, Nat.zero_add, not_true_eq_false, not_false_eq_true, Bool.true_and, Bool.and_true, Bool.false_and, Bool.and_false, Bool.true_or, Bool.or_true, Bool.false_or, Bool.or_false, beq_self_eq_true, eq_self, evSs, forF, lsec (show 5 ≤ n by omega) gs (gj labs) hp, e, end_pure0 (show pl 40 .non = true from rfl), m_append (gj labs) (show labs.length < lim by unfold lim; omega), sj, firstOf, Nat.reduceBEq, Int.reduceBEq, String.reduceBEq, String.reduceEq, Nat.reduceEqDiff, reduceCtorEq, Int.reduceNeg, Int.reduceLT, Int.reduceLE, Int.reduceEq, Int.reduceAdd, Int.reduceSub, Nat.reduceLT, Nat.reduceLeDiff, Nat.reduceAdd, Nat.reduceSub, Nat.reduceEqDiff]
  · rintro num sec labs sl p q ⟨a4, a5, a6, rfl⟩ gs hp e hq
    have hpl : pl 40 (.tup [.str p, q]) = true := pl_tup fun x hx => by
      simp only [List.mem_cons, List.not_mem_nil, or_false] at hx
      rcases hx with rfl | rfl
      · rfl
      · exact hq
    refine ⟨p, q, [a0, a1, a2, some (.ref h.length), some (.int num), some sec, some (.tup [.str p, q])], labs, rfl, ?_⟩
    simp (config := {implicitDefEqProofs := false}) only [evSs_nil, nx_nx, nx_rt, evS.eq_1, evS.eq_2, evS.eq_3, evS.eq_4, evS.eq_5, evS.eq_6, evS.eq_7, evS_for, evS.eq_9, evS.eq_10, evS.eq_11, evS.eq_12, evS.eq_13, evS.eq_14, evE, evEs, evO, evC, evI, R.bind_ok, R.bind_exc, R.q_ok, R.q_exc, R.of_some, R.nox_ok, Q.bind_nx, Q.bind_rt, Q.bind_bk, Q.bind_ct, Q.bind_exc, fin_rt, fin_nx, fin_exc, List.getElem?_cons_zero, List.getElem?_cons_succ, List.set_cons_zero, List.set_cons_succ, asgT, asgTs, lstOf, wipeS, srcOf, lstV, if_true, if_false, Bool.false_eq_true, Bool.true_eq_false, Bool.not_true, Bool.not_false, decide_true, decide_false, t_bl, t_int, t_non, t_tup, t_lst, c_lt, c_le, c_gt, c_ge, c_eqi, c_nei, c_eqs, c_nes, c_isN, c_isnN, c_isB, c_isnB, b_add, b_sub, ix_tup, ix_frz, ix_scr, at0, at1, isTys_nil, isTys_cons, ty_int_non, ty_int_bl, ty_int_int, ty_int_str, ty_int_tup, ty_int_lst, ty_int_dic, ty_bool_non, ty_bool_bl, ty_bool_int, ty_bool_str, ty_bool_tup, ty_bool_lst, ty_bool_dic, ty_str_non, ty_str_bl, ty_str_int, ty_str_str, ty_str_tup, ty_str_lst, ty_str_dic, ty_tuple_non, ty_tuple_bl, ty_tuple_int, ty_tuple_str, ty_tuple_tup, ty_tuple_lst, ty_tuple_dic, ty_list_non, ty_list_bl, ty_list_int, ty_list_str, ty_list_tup, ty_list_lst, ty_list_dic, ty_dict_non, ty_dict_bl, ty_dict_int, ty_dict_str, ty_dict_tup, ty_dict_lst, ty_dict_dic, ty_err_exn, ty_own_exn, bi_len_scr, bi_len_tup, bi_len_lst, bi_tuple_lst, bi_tuple_tup, bi_list_lst, bi_list_tup, bi_max, bi_min, mt_append, mt_part, mt_split, mt_splitN, mt_join, sl_tup, sl_lst, seqV, end_raw, Option.bind_some, Option.map_some, chk_nil, List.append_nil, okR_ok, okQ_ok, c_ins, c_nins, Int.cast_ofNat_Int, List.length_cons, List.length_nil, List.cons.injEq, and_self, and_true, true_and, and_false, false_and, Nat.zero_add, not_true_eq_false, not_false_eq_true, Bool.true_and, Bool.and_true, Bool.false_and, Bool.and_false, Bool.true_or, Bool.or_true, Bool.false_or, Bool.or_false, beq_self_eq_true, eq_self, evSs, forF, lsec (show 5 ≤ n by omega) gs (gj labs) hp, e, end_pure0 hpl, Nat.reduceBEq, Int.reduceBEq, String.reduceBEq, String.reduceEq, Nat.reduceEqDiff, reduceCtorEq, Int.reduceNeg, Int.reduceLT, Int.reduceLE, Int.reduceEq, Int.reduceAdd, Int.reduceSub, Nat.reduceLT, Nat.reduceLeDiff, Nat.reduceAdd, Nat.reduceSub, Nat.reduceEqDiff]
def vEnd (d : D) (h : Hs) : L2.MP.R D := match d with
  | .tup [p, q] => .exc 1 [p, q] h
  | _ => .ok .non h
def sForm' : outR (noneD sForm) = fun h => .exc 1 [.str sForm, .non] h := rfl
theorem vact_tail {n k : Nat} (hn : 5 ≤ n) {h : Hs} {a b c : D} {secs : List D} (hc : c = .lst secs ∨ ∃ i, c = .ref i ∧ h[i]? = some (.lst secs)) (hg : ∀ s ∈ secs, Gd (k + 2) s) (hl : secs.length ≤ 8) {sl0 : Sl} (e0 : sl0 = [some (.tup [a, b, c]), some a, some b, some c, none, none, none]) :
    ∃ t, finQ (evSs gl (callN gl Fs n) [.asg (.nm 4) (.lst [] true), .for_ (.tp [.nm 5, .nm 6]) (.enum (.var 3) 0) [.ex (.call 9 [.var 5, .var 6, .var 4] .pure), .ex (.mt .append (.var 4) [.ix (.var 6) (.cst (.int 0))])]] sl0 h) = vEnd (secsDue 0 secs []) (h ++ t) := by
  subst e0
  have key := vsecs (k := k) hn (h := h) (secs := secs) (src := srcOf c secs) (a0 := some (.tup [a, b, c])) (a1 := some a) (a2 := some b) (a3 := some c) (fun labs => by
    rcases hc with rfl | ⟨i, rfl, hi⟩
    · rfl
    · have hlt := (List.getElem?_eq_some_iff.mp hi).1
      simp only [srcOf, chk, List.all_cons, List.all_nil, Bool.and_true]
      rw [List.getElem?_append_left hlt, hi]
      exact decide_eq_true rfl) hg hl
  have ev1 : ∃ q, evSs gl (callN gl Fs n) [.asg (.nm 4) (.lst [] true), .for_ (.tp [.nm 5, .nm 6]) (.enum (.var 3) 0) [.ex (.call 9 [.var 5, .var 6, .var 4] .pure), .ex (.mt .append (.var 4) [.ix (.var 6) (.cst (.int 0))])]] [some (.tup [a, b, c]), some a, some b, some c, none, none, none] h = q.bind (fun sl h => .ok .nx sl h) ∧
      q = forL (srcOf c secs) (forF gl (callN gl Fs n) (.tp [.nm 5, .nm 6]) [.ex (.call 9 [.var 5, .var 6, .var 4] .pure), .ex (.mt .append (.var 4) [.ix (.var 6) (.cst (.int 0))])]) (enumL 0 secs) [some (.tup [a, b, c]), some a, some b, some c, some (.ref h.length), none, none] (h ++ [.lst []]) := by
    refine ⟨_, ?_, rfl⟩
    rcases hc with rfl | ⟨i, rfl, hi⟩
    · simp (config := {implicitDefEqProofs := false}) only [evSs_nil, nx_nx, nx_rt, evS.eq_1, evS.eq_2, evS.eq_3, evS.eq_4, evS.eq_5, evS.eq_6, evS.eq_7, evS_for, evS.eq_9, evS.eq_10, evS.eq_11, evS.eq_12, evS.eq_13, evS.eq_14, evE, evEs, evO, evC, evI, R.bind_ok, R.bind_exc, R.q_ok, R.q_exc, R.of_some, R.nox_ok, Q.bind_nx, Q.bind_rt, Q.bind_bk, Q.bind_ct, Q.bind_exc, fin_rt, fin_nx, fin_exc, List.getElem?_cons_zero, List.getElem?_cons_succ, List.set_cons_zero, List.set_cons_succ, asgT, asgTs, lstOf, wipeS, srcOf, lstV, if_true, if_false, Bool.false_eq_true, Bool.true_eq_false, Bool.not_true, Bool.not_false, decide_true, decide_false, t_bl, t_int, t_non, t_tup, t_lst, c_lt, c_le, c_gt, c_ge, c_eqi, c_nei, c_eqs, c_nes, c_isN, c_isnN, c_isB, c_isnB, b_add, b_sub, ix_tup, ix_frz, ix_scr, at0, at1, isTys_nil, isTys_cons, ty_int_non, ty_int_bl, ty_int_int, ty_int_str, ty_int_tup, ty_int_lst, ty_int_dic, ty_bool_non, ty_bool_bl, ty_bool_int, ty_bool_str, ty_bool_tup, ty_bool_lst, ty_bool_dic, ty_str_non, ty_str_bl, ty_str_int, ty_str_str, ty_str_tup, ty_str_lst, ty_str_dic, ty_tuple_non, ty_tuple_bl, ty_tuple_int, ty_tuple_str, ty_tuple_tup, ty_tuple_lst, ty_tuple_dic, ty_list_non, ty_list_bl, ty_list_int, ty_list_str, ty_list_tup, ty_list_lst, ty_list_dic, ty_dict_non, ty_dict_bl, ty_dict_int, ty_dict_str, ty_dict_tup, ty_dict_lst, ty_dict_dic, ty_err_exn, ty_own_exn, bi_len_scr, bi_len_tup, bi_len_lst, bi_tuple_lst, bi_tuple_tup, bi_list_lst, bi_list_tup, bi_max, bi_min, mt_append, mt_part, mt_split, mt_splitN, mt_join, sl_tup, sl_lst, seqV, end_raw, Option.bind_some, Option.map_some, chk_nil, List.append_nil, okR_ok, okQ_ok, c_ins, c_nins, Int.cast_ofNat_Int, List.length_cons, List.length_nil, List.cons.injEq, and_self, and_true, true_and, and_false, false_and, Nat.zero_add, not_true_eq_false, not_false_eq_true, Bool.true_and, Bool.and_true, Bool.false_and, Bool.and_false, Bool.true_or, Bool.or_true, Bool.false_or, Bool.or_false, beq_self_eq_true, eq_self, evSs, Nat.reduceBEq, Int.reduceBEq, String.reduceBEq, String.reduceEq, Nat.reduceEqDiff, reduceCtorEq, Int.reduceNeg, Int.reduceLT, Int.reduceLE, Int.reduceEq, Int.reduceAdd, Int.reduceSub, Nat.reduceLT, Nat.reduceLeDiff, Nat.reduceAdd, Nat.reduceSub, Nat.reduceEqDiff]
    · have hlt := (List.getElem?_eq_some_iff.mp hi).1
      have hi2 : (h ++ [Nd.lst []])[i]? = some (.lst secs) := by rw [List.getElem?_append_left hlt, hi]
      simp (config := {implicitDefEqProofs := false}) only [evSs_nil, nx_nx, nx_rt, evS.eq_1, evS.eq_2, evS.eq_3, evS.eq_4, evS.eq_5, evS.eq_6, evS.eq_7, evS_for, evS.eq_9, evS.eq_10, evS.eq_11, evS.eq_12, evS.eq_13, evS.eq_14, evE, evEs, evO, evC, evI, R.bind_ok, R.bind_exc, R.q_ok, R.q_exc, R.of_some, R.nox_ok, Q.bind_nx, Q.bind_rt, Q.bind_bk, Q.bind_ct, Q.bind_exc, fin_rt, fin_nx, fin_exc, List.getElem?_cons_zero, List.getElem?_cons_succ, List.set_cons_zero, List.set_cons_succ, asgT, asgTs, lstOf, wipeS, srcOf, lstV, if_true, if_false, Bool.false_eq_true, Bool.true_eq_false, Bool.not_true, Bool.not_false, decide_true, decide_false, t_bl, t_int, t_non, t_tup, t_lst, c_lt, c_le, c_gt, c_ge, c_eqi, c_nei, c_eqs, c_nes, c_isN, c_isnN, c_isB, c_isnB, b_add, b_sub, ix_tup, ix_frz, ix_scr, at0, at1, isTys_nil, isTys_cons, ty_int_non, ty_int_bl, ty_int_int, ty_int_str, ty_int_tup, ty_int_lst, ty_int_dic, ty_bool_non, ty_bool_bl, ty_bool_int, ty_bool_str, ty_bool_tup, ty_bool_lst, ty_bool_dic, ty_str_non, ty_str_bl, ty_str_int, ty_str_str, ty_str_tup, ty_str_lst, ty_str_dic, ty_tuple_non, ty_tuple_bl, ty_tuple_int, ty_tuple_str, ty_tuple_tup, ty_tuple_lst, ty_tuple_dic, ty_list_non, ty_list_bl, ty_list_int, ty_list_str, ty_list_tup, ty_list_lst, ty_list_dic, ty_dict_non, ty_dict_bl, ty_dict_int, ty_dict_str, ty_dict_tup, ty_dict_lst, ty_dict_dic, ty_err_exn, ty_own_exn, bi_len_scr, bi_len_tup, bi_len_lst, bi_tuple_lst, bi_tuple_tup, bi_list_lst, bi_list_tup, bi_max, bi_min, mt_append, mt_part, mt_split, mt_splitN, mt_join, sl_tup, sl_lst, seqV, end_raw, Option.bind_some, Option.map_some, chk_nil, List.append_nil, okR_ok, okQ_ok, c_ins, c_nins, Int.cast_ofNat_Int, List.length_cons, List.length_nil, List.cons.injEq, and_self, and_true, true_and, and_false, false_and, Nat.zero_add, not_true_eq_false, not_false_eq_true, Bool.true_and, Bool.and_true, Bool.false_and, Bool.and_false, Bool.true_or, Bool.or_true, Bool.false_or, Bool.or_false, beq_self_eq_true, eq_self, evSs, hi2, seqN, Nat.reduceBEq, Int.reduceBEq, String.reduceBEq, String.reduceEq, Nat.reduceEqDiff, reduceCtorEq, Int.reduceNeg, Int.reduceLT, Int.reduceLE, Int.reduceEq, Int.reduceAdd, Int.reduceSub, Nat.reduceLT, Nat.reduceLeDiff, Nat.reduceAdd, Nat.reduceSub, Nat.reduceEqDiff]
  obtain ⟨q, e1, e2⟩ := ev1
  rw [e1, e2]
  rcases key with ⟨e, sl', labs', e3⟩ | ⟨p, r, e, _, sl', labs', e3⟩
  · rw [e3, e]
    exact ⟨_, rfl⟩
  · rw [e3, e]
    exact ⟨_, rfl⟩
theorem vact {m k : Nat} (hm : 6 ≤ m) {h : Hs} {v : D} (hv : Ok h k v) : ∃ t, callN gl Fs m 10 [v] h = vEnd (actDue h v) (h ++ t) := by
  obtain ⟨n, rfl⟩ : ∃ n, m = n + 1 := ⟨m - 1, by omega⟩
  rw [c_10]
  have main : ∀ {a b c : D}, Gd (k + 3) a → Gd (k + 3) b → ((∃ secs, (c = .lst secs ∨ ∃ i, c = .ref i ∧ h[i]? = some (.lst secs)) ∧ ∀ s ∈ secs, Gd (k + 2) s) ∨ (Gd (k + 3) c ∧ ∀ xs, c ≠ .lst xs)) →
      ∃ t, finQ (evSs gl (callN gl Fs n) b_10 [some (.tup [a, b, c]), none, none, none, none, none, none] h) = vEnd (actDue h (.tup [a, b, c])) (h ++ t) := fun {a b c} ga gb gc => by
    cases en : isName a with
    | false =>
      refine ⟨[], ?_⟩
      simp (config := {implicitDefEqProofs := false}) only [evSs_nil, nx_nx, nx_rt, evS.eq_1, evS.eq_2, evS.eq_3, evS.eq_4, evS.eq_5, evS.eq_6, evS.eq_7, evS_for, evS.eq_9, evS.eq_10, evS.eq_11, evS.eq_12, evS.eq_13, evS.eq_14, evE, evEs, evO, evC, evI, R.bind_ok, R.bind_exc, R.q_ok, R.q_exc, R.of_some, R.nox_ok, Q.bind_nx, Q.bind_rt, Q.bind_bk, Q.bind_ct, Q.bind_exc, fin_rt, fin_nx, fin_exc, List.getElem?_cons_zero, List.getElem?_cons_succ, List.set_cons_zero, List.set_cons_succ, asgT, asgTs, lstOf, wipeS, srcOf, lstV, if_true, if_false, Bool.false_eq_true, Bool.true_eq_false, Bool.not_true, Bool.not_false, decide_true, decide_false, t_bl, t_int, t_non, t_tup, t_lst, c_lt, c_le, c_gt, c_ge, c_eqi, c_nei, c_eqs, c_nes, c_isN, c_isnN, c_isB, c_isnB, b_add, b_sub, ix_tup, ix_frz, ix_scr, at0, at1, isTys_nil, isTys_cons, ty_int_non, ty_int_bl, ty_int_int, ty_int_str, ty_int_tup, ty_int_lst, ty_int_dic, ty_bool_non, ty_bool_bl, ty_bool_int, ty_bool_str, ty_bool_tup, ty_bool_lst, ty_bool_dic, ty_str_non, ty_str_bl, ty_str_int, ty_str_str, ty_str_tup, ty_str_lst, ty_str_dic, ty_tuple_non, ty_tuple_bl, ty_tuple_int, ty_tuple_str, ty_tuple_tup, ty_tuple_lst, ty_tuple_dic, ty_list_non, ty_list_bl, ty_list_int, ty_list_str, ty_list_tup, ty_list_lst, ty_list_dic, ty_dict_non, ty_dict_bl, ty_dict_int, ty_dict_str, ty_dict_tup, ty_dict_lst, ty_dict_dic, ty_err_exn, ty_own_exn, bi_len_scr, bi_len_tup, bi_len_lst, bi_tuple_lst, bi_tuple_tup, bi_list_lst, bi_list_tup, bi_max, bi_min, mt_append, mt_part, mt_split, mt_splitN, mt_join, sl_tup, sl_lst, seqV, end_raw, Option.bind_some, Option.map_some, chk_nil, List.append_nil, okR_ok, okQ_ok, c_ins, c_nins, Int.cast_ofNat_Int, List.length_cons, List.length_nil, List.cons.injEq, and_self, and_true, true_and, and_false, false_and, Nat.zero_add, not_true_eq_false, not_false_eq_true, Bool.true_and, Bool.and_true, Bool.false_and, Bool.and_false, Bool.true_or, Bool.or_true, Bool.false_or, Bool.or_false, beq_self_eq_true, eq_self, evSs, b_10, name3 (show 2 ≤ n by omega) ga, en, end_pure0 (show pl 40 (.bl false) = true from rfl), flc_1, actDue, noneD, vEnd, sName, Nat.reduceBEq, Int.reduceBEq, String.reduceBEq, String.reduceEq, Nat.reduceEqDiff, reduceCtorEq, Int.reduceNeg, Int.reduceLT, Int.reduceLE, Int.reduceEq, Int.reduceAdd, Int.reduceSub, Nat.reduceLT, Nat.reduceLeDiff, Nat.reduceAdd, Nat.reduceSub, Nat.reduceEqDiff]
    | true =>
      cases ed : isDay b with
      | false =>
        refine ⟨[], ?_⟩
        simp (config := {implicitDefEqProofs := false}) only [evSs_nil, nx_nx, nx_rt, evS.eq_1, evS.eq_2, evS.eq_3, evS.eq_4, evS.eq_5, evS.eq_6, evS.eq_7, evS_for, evS.eq_9, evS.eq_10, evS.eq_11, evS.eq_12, evS.eq_13, evS.eq_14, evE, evEs, evO, evC, evI, R.bind_ok, R.bind_exc, R.q_ok, R.q_exc, R.of_some, R.nox_ok, Q.bind_nx, Q.bind_rt, Q.bind_bk, Q.bind_ct, Q.bind_exc, fin_rt, fin_nx, fin_exc, List.getElem?_cons_zero, List.getElem?_cons_succ, List.set_cons_zero, List.set_cons_succ, asgT, asgTs, lstOf, wipeS, srcOf, lstV, if_true, if_false, Bool.false_eq_true, Bool.true_eq_false, Bool.not_true, Bool.not_false, decide_true, decide_false, t_bl, t_int, t_non, t_tup, t_lst, c_lt, c_le, c_gt, c_ge, c_eqi, c_nei, c_eqs, c_nes, c_isN, c_isnN, c_isB, c_isnB, b_add, b_sub, ix_tup, ix_frz, ix_scr, at0, at1, isTys_nil, isTys_cons, ty_int_non, ty_int_bl, ty_int_int, ty_int_str, ty_int_tup, ty_int_lst, ty_int_dic, ty_bool_non, ty_bool_bl, ty_bool_int, ty_bool_str, ty_bool_tup, ty_bool_lst, ty_bool_dic, ty_str_non, ty_str_bl, ty_str_int, ty_str_str, ty_str_tup, ty_str_lst, ty_str_dic, ty_tuple_non, ty_tuple_bl, ty_tuple_int, ty_tuple_str, ty_tuple_tup, ty_tuple_lst, ty_tuple_dic, ty_list_non, ty_list_bl, ty_list_int, ty_list_str, ty_list_tup, ty_list_lst, ty_list_dic, ty_dict_non, ty_dict_bl, ty_dict_int, ty_dict_str, ty_dict_tup, ty_dict_lst, ty_dict_dic, ty_err_exn, ty_own_exn, bi_len_scr, bi_len_tup, bi_len_lst, bi_tuple_lst, bi_tuple_tup, bi_list_lst, bi_list_tup, bi_max, bi_min, mt_append, mt_part, mt_split, mt_splitN, mt_join, sl_tup, sl_lst, seqV, end_raw, Option.bind_some, Option.map_some, chk_nil, List.append_nil, okR_ok, okQ_ok, c_ins, c_nins, Int.cast_ofNat_Int, List.length_cons, List.length_nil, List.cons.injEq, and_self, and_true, true_and, and_false, false_and, Nat.zero_add, not_true_eq_false, not_false_eq_true, Bool.true_and, Bool.and_true, Bool.false_and, Bool.and_false, Bool.true_or, Bool.or_true, Bool.false_or, Bool.or_false, beq_self_eq_true, eq_self, evSs, b_10, name3 (show 2 ≤ n by omega) ga, en, end_pure0 (show pl 40 (.bl true) = true from rfl), day6 (show 3 ≤ n by omega) gb, ed, end_pure0 (show pl 40 (.bl false) = true from rfl), flc_1, actDue, noneD, vEnd, sDay, Nat.reduceBEq, Int.reduceBEq, String.reduceBEq, String.reduceEq, Nat.reduceEqDiff, reduceCtorEq, Int.reduceNeg, Int.reduceLT, Int.reduceLE, Int.reduceEq, Int.reduceAdd, Int.reduceSub, Nat.reduceLT, Nat.reduceLeDiff, Nat.reduceAdd, Nat.reduceSub, Nat.reduceEqDiff]
      | true =>
        rcases gc with ⟨secs, hc, hg⟩ | ⟨gc, hnl⟩
        · have el : lstV h c = some secs := by
            rcases hc with rfl | ⟨i, rfl, hi⟩
            · rfl
            · simp only [lstV, hi, Option.bind_some, seqN]
          have ty : isTy gl h c .list = some true := by
            rcases hc with rfl | ⟨i, rfl, hi⟩
            · rfl
            · exact ty_list_ref hi
          have bl : biD .len false [c] h = .ok (.int secs.length) h := by
            rcases hc with rfl | ⟨i, rfl, hi⟩
            · rfl
            · exact bi_len_ref hi
          have e8 : (8 : Int) < (secs.length : Nat) ↔ ¬ secs.length ≤ 8 := by omega
          have ea : actDue h (.tup [a, b, c]) = if secs.length ≤ 8 then secsDue 0 secs [] else noneD sSecs := by simp only [actDue, en, ed, el, if_true]
          rw [ea]
          by_cases h8 : secs.length ≤ 8
          · rw [if_pos h8]
            obtain ⟨t, q⟩ := vact_tail (show 5 ≤ n by omega) (a := a) (b := b) hc hg h8 rfl
            refine ⟨t, ?_⟩
            rw [← q]
            have st : ∀ ss : List S, evSs gl (callN gl Fs n) (b_10.take 5 ++ ss) [some (.tup [a, b, c]), none, none, none, none, none, none] h = evSs gl (callN gl Fs n) ss [some (.tup [a, b, c]), some a, some b, some c, none, none, none] h := fun ss => by
              simp (config := {implicitDefEqProofs := false}) only [evSs_nil, nx_nx, nx_rt, evS.eq_1, evS.eq_2, evS.eq_3, evS.eq_4, evS.eq_5, evS.eq_6, evS.eq_7, evS_for, evS.eq_9, evS.eq_10, evS.eq_11, evS.eq_12, evS.eq_13, evS.eq_14, evE, evEs, evO, evC, evI, R.bind_ok, R.bind_exc, R.q_ok, R.q_exc, R.of_some, R.nox_ok, Q.bind_nx, Q.bind_rt, Q.bind_bk, Q.bind_ct, Q.bind_exc, fin_rt, fin_nx, fin_exc, List.getElem?_cons_zero, List.getElem?_cons_succ, List.set_cons_zero, List.set_cons_succ, asgT, asgTs, lstOf, wipeS, srcOf, lstV, if_true, if_false, Bool.false_eq_true, Bool.true_eq_false, Bool.not_true, Bool.not_false, decide_true, decide_false, t_bl, t_int, t_non, t_tup, t_lst, c_lt, c_le, c_gt, c_ge, c_eqi, c_nei, c_eqs, c_nes, c_isN, c_isnN, c_isB, c_isnB, b_add, b_sub, ix_tup, ix_frz, ix_scr, at0, at1, isTys_nil, isTys_cons, ty_int_non, ty_int_bl, ty_int_int, ty_int_str, ty_int_tup, ty_int_lst, ty_int_dic, ty_bool_non, ty_bool_bl, ty_bool_int, ty_bool_str, ty_bool_tup, ty_bool_lst, ty_bool_dic, ty_str_non, ty_str_bl, ty_str_int, ty_str_str, ty_str_tup, ty_str_lst, ty_str_dic, ty_tuple_non, ty_tuple_bl, ty_tuple_int, ty_tuple_str, ty_tuple_tup, ty_tuple_lst, ty_tuple_dic, ty_list_non, ty_list_bl, ty_list_int, ty_list_str, ty_list_tup, ty_list_lst, ty_list_dic, ty_dict_non, ty_dict_bl, ty_dict_int, ty_dict_str, ty_dict_tup, ty_dict_lst, ty_dict_dic, ty_err_exn, ty_own_exn, bi_len_scr, bi_len_tup, bi_len_lst, bi_tuple_lst, bi_tuple_tup, bi_list_lst, bi_list_tup, bi_max, bi_min, mt_append, mt_part, mt_split, mt_splitN, mt_join, sl_tup, sl_lst, seqV, end_raw, Option.bind_some, Option.map_some, chk_nil, List.append_nil, okR_ok, okQ_ok, c_ins, c_nins, Int.cast_ofNat_Int, List.length_cons, List.length_nil, List.cons.injEq, and_self, and_true, true_and, and_false, false_and, Nat.zero_add, not_true_eq_false, not_false_eq_true, Bool.true_and, Bool.and_true, Bool.false_and, Bool.and_false, Bool.true_or, Bool.or_true, Bool.false_or, Bool.or_false, beq_self_eq_true, eq_self, b_10, List.take, List.cons_append, List.nil_append, Nat.reduceBEq, Int.reduceBEq, String.reduceBEq, String.reduceEq, Nat.reduceEqDiff, reduceCtorEq, Int.reduceNeg, Int.reduceLT, Int.reduceLE, Int.reduceEq, Int.reduceAdd, Int.reduceSub, Nat.reduceLT, Nat.reduceLeDiff, Nat.reduceAdd, Nat.reduceSub, Nat.reduceEqDiff]
              simp (config := {implicitDefEqProofs := false}) only [evSs.eq_2]
              simp (config := {implicitDefEqProofs := false}) only [evSs_nil, nx_nx, nx_rt, evS.eq_1, evS.eq_2, evS.eq_3, evS.eq_4, evS.eq_5, evS.eq_6, evS.eq_7, evS_for, evS.eq_9, evS.eq_10, evS.eq_11, evS.eq_12, evS.eq_13, evS.eq_14, evE, evEs, evO, evC, evI, R.bind_ok, R.bind_exc, R.q_ok, R.q_exc, R.of_some, R.nox_ok, Q.bind_nx, Q.bind_rt, Q.bind_bk, Q.bind_ct, Q.bind_exc, fin_rt, fin_nx, fin_exc, List.getElem?_cons_zero, List.getElem?_cons_succ, List.set_cons_zero, List.set_cons_succ, asgT, asgTs, lstOf, wipeS, srcOf, lstV, if_true, if_false, Bool.false_eq_true, Bool.true_eq_false, Bool.not_true, Bool.not_false, decide_true, decide_false, t_bl, t_int, t_non, t_tup, t_lst, c_lt, c_le, c_gt, c_ge, c_eqi, c_nei, c_eqs, c_nes, c_isN, c_isnN, c_isB, c_isnB, b_add, b_sub, ix_tup, ix_frz, ix_scr, at0, at1, isTys_nil, isTys_cons, ty_int_non, ty_int_bl, ty_int_int, ty_int_str, ty_int_tup, ty_int_lst, ty_int_dic, ty_bool_non, ty_bool_bl, ty_bool_int, ty_bool_str, ty_bool_tup, ty_bool_lst, ty_bool_dic, ty_str_non, ty_str_bl, ty_str_int, ty_str_str, ty_str_tup, ty_str_lst, ty_str_dic, ty_tuple_non, ty_tuple_bl, ty_tuple_int, ty_tuple_str, ty_tuple_tup, ty_tuple_lst, ty_tuple_dic, ty_list_non, ty_list_bl, ty_list_int, ty_list_str, ty_list_tup, ty_list_lst, ty_list_dic, ty_dict_non, ty_dict_bl, ty_dict_int, ty_dict_str, ty_dict_tup, ty_dict_lst, ty_dict_dic, ty_err_exn, ty_own_exn, bi_len_scr, bi_len_tup, bi_len_lst, bi_tuple_lst, bi_tuple_tup, bi_list_lst, bi_list_tup, bi_max, bi_min, mt_append, mt_part, mt_split, mt_splitN, mt_join, sl_tup, sl_lst, seqV, end_raw, Option.bind_some, Option.map_some, chk_nil, List.append_nil, okR_ok, okQ_ok, c_ins, c_nins, Int.cast_ofNat_Int, List.length_cons, List.length_nil, List.cons.injEq, and_self, and_true, true_and, and_false, false_and, Nat.zero_add, not_true_eq_false, not_false_eq_true, Bool.true_and, Bool.and_true, Bool.false_and, Bool.and_false, Bool.true_or, Bool.or_true, Bool.false_or, Bool.or_false, beq_self_eq_true, eq_self, name3 (show 2 ≤ n by omega) ga, en, end_pure0 (show pl 40 (.bl true) = true from rfl), day6 (show 3 ≤ n by omega) gb, ed, ty, bl, gl_7, e8, h8, Nat.reduceBEq, Int.reduceBEq, String.reduceBEq, String.reduceEq, Nat.reduceEqDiff, reduceCtorEq, Int.reduceNeg, Int.reduceLT, Int.reduceLE, Int.reduceEq, Int.reduceAdd, Int.reduceSub, Nat.reduceLT, Nat.reduceLeDiff, Nat.reduceAdd, Nat.reduceSub, Nat.reduceEqDiff]
            exact congrArg finQ (st _)
          · rw [if_neg h8]
            refine ⟨[], ?_⟩
            simp (config := {implicitDefEqProofs := false}) only [evSs_nil, nx_nx, nx_rt, evS.eq_1, evS.eq_2, evS.eq_3, evS.eq_4, evS.eq_5, evS.eq_6, evS.eq_7, evS_for, evS.eq_9, evS.eq_10, evS.eq_11, evS.eq_12, evS.eq_13, evS.eq_14, evE, evEs, evO, evC, evI, R.bind_ok, R.bind_exc, R.q_ok, R.q_exc, R.of_some, R.nox_ok, Q.bind_nx, Q.bind_rt, Q.bind_bk, Q.bind_ct, Q.bind_exc, fin_rt, fin_nx, fin_exc, List.getElem?_cons_zero, List.getElem?_cons_succ, List.set_cons_zero, List.set_cons_succ, asgT, asgTs, lstOf, wipeS, srcOf, lstV, if_true, if_false, Bool.false_eq_true, Bool.true_eq_false, Bool.not_true, Bool.not_false, decide_true, decide_false, t_bl, t_int, t_non, t_tup, t_lst, c_lt, c_le, c_gt, c_ge, c_eqi, c_nei, c_eqs, c_nes, c_isN, c_isnN, c_isB, c_isnB, b_add, b_sub, ix_tup, ix_frz, ix_scr, at0, at1, isTys_nil, isTys_cons, ty_int_non, ty_int_bl, ty_int_int, ty_int_str, ty_int_tup, ty_int_lst, ty_int_dic, ty_bool_non, ty_bool_bl, ty_bool_int, ty_bool_str, ty_bool_tup, ty_bool_lst, ty_bool_dic, ty_str_non, ty_str_bl, ty_str_int, ty_str_str, ty_str_tup, ty_str_lst, ty_str_dic, ty_tuple_non, ty_tuple_bl, ty_tuple_int, ty_tuple_str, ty_tuple_tup, ty_tuple_lst, ty_tuple_dic, ty_list_non, ty_list_bl, ty_list_int, ty_list_str, ty_list_tup, ty_list_lst, ty_list_dic, ty_dict_non, ty_dict_bl, ty_dict_int, ty_dict_str, ty_dict_tup, ty_dict_lst, ty_dict_dic, ty_err_exn, ty_own_exn, bi_len_scr, bi_len_tup, bi_len_lst, bi_tuple_lst, bi_tuple_tup, bi_list_lst, bi_list_tup, bi_max, bi_min, mt_append, mt_part, mt_split, mt_splitN, mt_join, sl_tup, sl_lst, seqV, end_raw, Option.bind_some, Option.map_some, chk_nil, List.append_nil, okR_ok, okQ_ok, c_ins, c_nins, Int.cast_ofNat_Int, List.length_cons, List.length_nil, List.cons.injEq, and_self, and_true, true_and, and_false, false_and, Nat.zero_add, not_true_eq_false, not_false_eq_true, Bool.true_and, Bool.and_true, Bool.false_and, Bool.and_false, Bool.true_or, Bool.or_true, Bool.false_or, Bool.or_false, beq_self_eq_true, eq_self, evSs, b_10, name3 (show 2 ≤ n by omega) ga, en, end_pure0 (show pl 40 (.bl true) = true from rfl), day6 (show 3 ≤ n by omega) gb, ed, ty, bl, gl_7, e8, h8, flc_1, noneD, vEnd, sSecs, Nat.reduceBEq, Int.reduceBEq, String.reduceBEq, String.reduceEq, Nat.reduceEqDiff, reduceCtorEq, Int.reduceNeg, Int.reduceLT, Int.reduceLE, Int.reduceEq, Int.reduceAdd, Int.reduceSub, Nat.reduceLT, Nat.reduceLeDiff, Nat.reduceAdd, Nat.reduceSub, Nat.reduceEqDiff]
        · refine ⟨[], ?_⟩
          cases c <;> first | (exact absurd rfl (hnl _)) | (cases gc.1; done) | (simp (config := {implicitDefEqProofs := false}) only [evSs_nil, nx_nx, nx_rt, evS.eq_1, evS.eq_2, evS.eq_3, evS.eq_4, evS.eq_5, evS.eq_6, evS.eq_7, evS_for, evS.eq_9, evS.eq_10, evS.eq_11, evS.eq_12, evS.eq_13, evS.eq_14, evE, evEs, evO, evC, evI, R.bind_ok, R.bind_exc, R.q_ok, R.q_exc, R.of_some, R.nox_ok, Q.bind_nx, Q.bind_rt, Q.bind_bk, Q.bind_ct, Q.bind_exc, fin_rt, fin_nx, fin_exc, List.getElem?_cons_zero, List.getElem?_cons_succ, List.set_cons_zero, List.set_cons_succ, asgT, asgTs, lstOf, wipeS, srcOf, lstV, if_true, if_false, Bool.false_eq_true, Bool.true_eq_false, Bool.not_true, Bool.not_false, decide_true, decide_false, t_bl, t_int, t_non, t_tup, t_lst, c_lt, c_le, c_gt, c_ge, c_eqi, c_nei, c_eqs, c_nes, c_isN, c_isnN, c_isB, c_isnB, b_add, b_sub, ix_tup, ix_frz, ix_scr, at0, at1, isTys_nil, isTys_cons, ty_int_non, ty_int_bl, ty_int_int, ty_int_str, ty_int_tup, ty_int_lst, ty_int_dic, ty_bool_non, ty_bool_bl, ty_bool_int, ty_bool_str, ty_bool_tup, ty_bool_lst, ty_bool_dic, ty_str_non, ty_str_bl, ty_str_int, ty_str_str, ty_str_tup, ty_str_lst, ty_str_dic, ty_tuple_non, ty_tuple_bl, ty_tuple_int, ty_tuple_str, ty_tuple_tup, ty_tuple_lst, ty_tuple_dic, ty_list_non, ty_list_bl, ty_list_int, ty_list_str, ty_list_tup, ty_list_lst, ty_list_dic, ty_dict_non, ty_dict_bl, ty_dict_int, ty_dict_str, ty_dict_tup, ty_dict_lst, ty_dict_dic, ty_err_exn, ty_own_exn, bi_len_scr, bi_len_tup, bi_len_lst, bi_tuple_lst, bi_tuple_tup, bi_list_lst, bi_list_tup, bi_max, bi_min, mt_append, mt_part, mt_split, mt_splitN, mt_join, sl_tup, sl_lst, seqV, end_raw, Option.bind_some, Option.map_some, chk_nil, List.append_nil, okR_ok, okQ_ok, c_ins, c_nins, Int.cast_ofNat_Int, List.length_cons, List.length_nil, List.cons.injEq, and_self, and_true, true_and, and_false, false_and, Nat.zero_add, not_true_eq_false, not_false_eq_true, Bool.true_and, Bool.and_true, Bool.false_and, Bool.and_false, Bool.true_or, Bool.or_true, Bool.false_or, Bool.or_false, beq_self_eq_true, eq_self, evSs, b_10, name3 (show 2 ≤ n by omega) ga, en, end_pure0 (show pl 40 (.bl true) = true from rfl), day6 (show 3 ≤ n by omega) gb, ed, flc_1, actDue, noneD, vEnd, sSecs, Nat.reduceBEq, Int.reduceBEq, String.reduceBEq, String.reduceEq, Nat.reduceEqDiff, reduceCtorEq, Int.reduceNeg, Int.reduceLT, Int.reduceLE, Int.reduceEq, Int.reduceAdd, Int.reduceSub, Nat.reduceLT, Nat.reduceLeDiff, Nat.reduceAdd, Nat.reduceSub, Nat.reduceEqDiff])
  have bad : ∀ v, Gd (k + 4) v → (∀ a b c, v ≠ .tup [a, b, c]) → ∃ t, finQ (evSs gl (callN gl Fs n) b_10 [some v, none, none, none, none, none, none] h) = vEnd (actDue h v) (h ++ t) := fun v gv hn => by
    refine ⟨[], ?_⟩
    have ea : actDue h v = noneD sForm := by
      unfold actDue
      split
      · exact absurd rfl (hn _ _ _)
      · rfl
    rw [ea]
    cases v with
    | tup xs =>
      have e3 : ((xs.length : Nat) : Int) = 3 ↔ False := ⟨fun z => by
        match xs, z with
        | [a, b, c], _ => exact hn _ _ _ rfl
        | [], z => simp at z
        | [_], z => simp at z
        | [_, _], z => simp at z
        | _ :: _ :: _ :: _ :: _, z => simp at z; omega, False.elim⟩
      simp (config := {implicitDefEqProofs := false}) only [evSs_nil, nx_nx, nx_rt, evS.eq_1, evS.eq_2, evS.eq_3, evS.eq_4, evS.eq_5, evS.eq_6, evS.eq_7, evS_for, evS.eq_9, evS.eq_10, evS.eq_11, evS.eq_12, evS.eq_13, evS.eq_14, evE, evEs, evO, evC, evI, R.bind_ok, R.bind_exc, R.q_ok, R.q_exc, R.of_some, R.nox_ok, Q.bind_nx, Q.bind_rt, Q.bind_bk, Q.bind_ct, Q.bind_exc, fin_rt, fin_nx, fin_exc, List.getElem?_cons_zero, List.getElem?_cons_succ, List.set_cons_zero, List.set_cons_succ, asgT, asgTs, lstOf, wipeS, srcOf, lstV, if_true, if_false, Bool.false_eq_true, Bool.true_eq_false, Bool.not_true, Bool.not_false, decide_true, decide_false, t_bl, t_int, t_non, t_tup, t_lst, c_lt, c_le, c_gt, c_ge, c_eqi, c_nei, c_eqs, c_nes, c_isN, c_isnN, c_isB, c_isnB, b_add, b_sub, ix_tup, ix_frz, ix_scr, at0, at1, isTys_nil, isTys_cons, ty_int_non, ty_int_bl, ty_int_int, ty_int_str, ty_int_tup, ty_int_lst, ty_int_dic, ty_bool_non, ty_bool_bl, ty_bool_int, ty_bool_str, ty_bool_tup, ty_bool_lst, ty_bool_dic, ty_str_non, ty_str_bl, ty_str_int, ty_str_str, ty_str_tup, ty_str_lst, ty_str_dic, ty_tuple_non, ty_tuple_bl, ty_tuple_int, ty_tuple_str, ty_tuple_tup, ty_tuple_lst, ty_tuple_dic, ty_list_non, ty_list_bl, ty_list_int, ty_list_str, ty_list_tup, ty_list_lst, ty_list_dic, ty_dict_non, ty_dict_bl, ty_dict_int, ty_dict_str, ty_dict_tup, ty_dict_lst, ty_dict_dic, ty_err_exn, ty_own_exn, bi_len_scr, bi_len_tup, bi_len_lst, bi_tuple_lst, bi_tuple_tup, bi_list_lst, bi_list_tup, bi_max, bi_min, mt_append, mt_part, mt_split, mt_splitN, mt_join, sl_tup, sl_lst, seqV, end_raw, Option.bind_some, Option.map_some, chk_nil, List.append_nil, okR_ok, okQ_ok, c_ins, c_nins, Int.cast_ofNat_Int, List.length_cons, List.length_nil, List.cons.injEq, and_self, and_true, true_and, and_false, false_and, Nat.zero_add, not_true_eq_false, not_false_eq_true, Bool.true_and, Bool.and_true, Bool.false_and, Bool.and_false, Bool.true_or, Bool.or_true, Bool.false_or, Bool.or_false, beq_self_eq_true, eq_self, evSs, b_10, e3, flc_1, noneD, vEnd, sForm, Nat.reduceBEq, Int.reduceBEq, String.reduceBEq, String.reduceEq, Nat.reduceEqDiff, reduceCtorEq, Int.reduceNeg, Int.reduceLT, Int.reduceLE, Int.reduceEq, Int.reduceAdd, Int.reduceSub, Nat.reduceLT, Nat.reduceLeDiff, Nat.reduceAdd, Nat.reduceSub, Nat.reduceEqDiff]
    | _ => first | (cases gv.1; done) | (simp (config := {implicitDefEqProofs := false}) only [evSs_nil, nx_nx, nx_rt, evS.eq_1, evS.eq_2, evS.eq_3, evS.eq_4, evS.eq_5, evS.eq_6, evS.eq_7, evS_for, evS.eq_9, evS.eq_10, evS.eq_11, evS.eq_12, evS.eq_13, evS.eq_14, evE, evEs, evO, evC, evI, R.bind_ok, R.bind_exc, R.q_ok, R.q_exc, R.of_some, R.nox_ok, Q.bind_nx, Q.bind_rt, Q.bind_bk, Q.bind_ct, Q.bind_exc, fin_rt, fin_nx, fin_exc, List.getElem?_cons_zero, List.getElem?_cons_succ, List.set_cons_zero, List.set_cons_succ, asgT, asgTs, lstOf, wipeS, srcOf, lstV, if_true, if_false, Bool.false_eq_true, Bool.true_eq_false, Bool.not_true, Bool.not_false, decide_true, decide_false, t_bl, t_int, t_non, t_tup, t_lst, c_lt, c_le, c_gt, c_ge, c_eqi, c_nei, c_eqs, c_nes, c_isN, c_isnN, c_isB, c_isnB, b_add, b_sub, ix_tup, ix_frz, ix_scr, at0, at1, isTys_nil, isTys_cons, ty_int_non, ty_int_bl, ty_int_int, ty_int_str, ty_int_tup, ty_int_lst, ty_int_dic, ty_bool_non, ty_bool_bl, ty_bool_int, ty_bool_str, ty_bool_tup, ty_bool_lst, ty_bool_dic, ty_str_non, ty_str_bl, ty_str_int, ty_str_str, ty_str_tup, ty_str_lst, ty_str_dic, ty_tuple_non, ty_tuple_bl, ty_tuple_int, ty_tuple_str, ty_tuple_tup, ty_tuple_lst, ty_tuple_dic, ty_list_non, ty_list_bl, ty_list_int, ty_list_str, ty_list_tup, ty_list_lst, ty_list_dic, ty_dict_non, ty_dict_bl, ty_dict_int, ty_dict_str, ty_dict_tup, ty_dict_lst, ty_dict_dic, ty_err_exn, ty_own_exn, bi_len_scr, bi_len_tup, bi_len_lst, bi_tuple_lst, bi_tuple_tup, bi_list_lst, bi_list_tup, bi_max, bi_min, mt_append, mt_part, mt_split, mt_splitN, mt_join, sl_tup, sl_lst, seqV, end_raw, Option.bind_some, Option.map_some, chk_nil, List.append_nil, okR_ok, okQ_ok, c_ins, c_nins, Int.cast_ofNat_Int, List.length_cons, List.length_nil, List.cons.injEq, and_self, and_true, true_and, and_false, false_and, Nat.zero_add, not_true_eq_false, not_false_eq_true, Bool.true_and, Bool.and_true, Bool.false_and, Bool.and_false, Bool.true_or, Bool.or_true, Bool.false_or, Bool.or_false, beq_self_eq_true, eq_self, evSs, b_10, flc_1, noneD, vEnd, sForm, Nat.reduceBEq, Int.reduceBEq, String.reduceBEq, String.reduceEq, Nat.reduceEqDiff, reduceCtorEq, Int.reduceNeg, Int.reduceLT, Int.reduceLE, Int.reduceEq, Int.reduceAdd, Int.reduceSub, Nat.reduceLT, Nat.reduceLeDiff, Nat.reduceAdd, Nat.reduceSub, Nat.reduceEqDiff])
  rcases hv.ex with gv | ⟨a, b, i, secs, rfl, ga, gb, hi, hg⟩ | ⟨xs, rfl⟩ | ⟨xs, rfl, hx⟩
  · by_cases h3 : ∃ a b c, v = .tup [a, b, c]
    · obtain ⟨a, b, c, rfl⟩ := h3
      obtain ⟨hx, _⟩ := gv.tup
      refine main (hx a (by simp)) (hx b (by simp)) ?_
      have gc := hx c (by simp)
      by_cases hl : ∃ secs, c = .lst secs
      · obtain ⟨secs, rfl⟩ := hl
        exact .inl ⟨secs, .inl rfl, gc.lst.1⟩
      · exact .inr ⟨gc, fun xs e => hl ⟨xs, e⟩⟩
    · exact bad v gv fun a b c e => h3 ⟨a, b, c, e⟩
  · exact main ga gb (.inl ⟨secs, .inr ⟨i, rfl, hi⟩, hg⟩)
  · refine ⟨[], ?_⟩
    have ea : actDue h (.lst xs) = noneD sForm := rfl
    rw [ea]
    simp (config := {implicitDefEqProofs := false}) only [evSs_nil, nx_nx, nx_rt, evS.eq_1, evS.eq_2, evS.eq_3, evS.eq_4, evS.eq_5, evS.eq_6, evS.eq_7, evS_for, evS.eq_9, evS.eq_10, evS.eq_11, evS.eq_12, evS.eq_13, evS.eq_14, evE, evEs, evO, evC, evI, R.bind_ok, R.bind_exc, R.q_ok, R.q_exc, R.of_some, R.nox_ok, Q.bind_nx, Q.bind_rt, Q.bind_bk, Q.bind_ct, Q.bind_exc, fin_rt, fin_nx, fin_exc, List.getElem?_cons_zero, List.getElem?_cons_succ, List.set_cons_zero, List.set_cons_succ, asgT, asgTs, lstOf, wipeS, srcOf, lstV, if_true, if_false, Bool.false_eq_true, Bool.true_eq_false, Bool.not_true, Bool.not_false, decide_true, decide_false, t_bl, t_int, t_non, t_tup, t_lst, c_lt, c_le, c_gt, c_ge, c_eqi, c_nei, c_eqs, c_nes, c_isN, c_isnN, c_isB, c_isnB, b_add, b_sub, ix_tup, ix_frz, ix_scr, at0, at1, isTys_nil, isTys_cons, ty_int_non, ty_int_bl, ty_int_int, ty_int_str, ty_int_tup, ty_int_lst, ty_int_dic, ty_bool_non, ty_bool_bl, ty_bool_int, ty_bool_str, ty_bool_tup, ty_bool_lst, ty_bool_dic, ty_str_non, ty_str_bl, ty_str_int, ty_str_str, ty_str_tup, ty_str_lst, ty_str_dic, ty_tuple_non, ty_tuple_bl, ty_tuple_int, ty_tuple_str, ty_tuple_tup, ty_tuple_lst, ty_tuple_dic, ty_list_non, ty_list_bl, ty_list_int, ty_list_str, ty_list_tup, ty_list_lst, ty_list_dic, ty_dict_non, ty_dict_bl, ty_dict_int, ty_dict_str, ty_dict_tup, ty_dict_lst, ty_dict_dic, ty_err_exn, ty_own_exn, bi_len_scr, bi_len_tup, bi_len_lst, bi_tuple_lst, bi_tuple_tup, bi_list_lst, bi_list_tup, bi_max, bi_min, mt_append, mt_part, mt_split, mt_splitN, mt_join, sl_tup, sl_lst, seqV, end_raw, Option.bind_some, Option.map_some, chk_nil, List.append_nil, okR_ok, okQ_ok, c_ins, c_nins, Int.cast_ofNat_Int, List.length_cons, List.length_nil, List.cons.injEq, and_self, and_true, true_and, and_false, false_and, Nat.zero_add, not_true_eq_false, not_false_eq_true, Bool.true_and, Bool.and_true, Bool.false_and, Bool.and_false, Bool.true_or, Bool.or_true, Bool.false_or, Bool.or_false, beq_self_eq_true, eq_self, evSs, b_10, flc_1, noneD, vEnd, sForm, Nat.reduceBEq, Int.reduceBEq, String.reduceBEq, String.reduceEq, Nat.reduceEqDiff, reduceCtorEq, Int.reduceNeg, Int.reduceLT, Int.reduceLE, Int.reduceEq, Int.reduceAdd, Int.reduceSub, Nat.reduceLT, Nat.reduceLeDiff, Nat.reduceAdd, Nat.reduceSub, Nat.reduceEqDiff]
  · refine ⟨[], ?_⟩
    have ea : actDue h (.tup xs) = noneD sForm := by
      unfold actDue
      split
      · rename_i z; cases z; exact absurd rfl hx
      · rfl
    have e3 : ((xs.length : Nat) : Int) = 3 ↔ False := ⟨fun z => hx (by omega), False.elim⟩
    rw [ea]
    simp (config := {implicitDefEqProofs := false}) only [evSs_nil, nx_nx, nx_rt, evS.eq_1, evS.eq_2, evS.eq_3, evS.eq_4, evS.eq_5, evS.eq_6, evS.eq_7, evS_for, evS.eq_9, evS.eq_10, evS.eq_11, evS.eq_12, evS.eq_13, evS.eq_14, evE, evEs, evO, evC, evI, R.bind_ok, R.bind_exc, R.q_ok, R.q_exc, R.of_some, R.nox_ok, Q.bind_nx, Q.bind_rt, Q.bind_bk, Q.bind_ct, Q.bind_exc, fin_rt, fin_nx, fin_exc, List.getElem?_cons_zero, List.getElem?_cons_succ, List.set_cons_zero, List.set_cons_succ, asgT, asgTs, lstOf, wipeS, srcOf, lstV, if_true, if_false, Bool.false_eq_true, Bool.true_eq_false, Bool.not_true, Bool.not_false, decide_true, decide_false, t_bl, t_int, t_non, t_tup, t_lst, c_lt, c_le, c_gt, c_ge, c_eqi, c_nei, c_eqs, c_nes, c_isN, c_isnN, c_isB, c_isnB, b_add, b_sub, ix_tup, ix_frz, ix_scr, at0, at1, isTys_nil, isTys_cons, ty_int_non, ty_int_bl, ty_int_int, ty_int_str, ty_int_tup, ty_int_lst, ty_int_dic, ty_bool_non, ty_bool_bl, ty_bool_int, ty_bool_str, ty_bool_tup, ty_bool_lst, ty_bool_dic, ty_str_non, ty_str_bl, ty_str_int, ty_str_str, ty_str_tup, ty_str_lst, ty_str_dic, ty_tuple_non, ty_tuple_bl, ty_tuple_int, ty_tuple_str, ty_tuple_tup, ty_tuple_lst, ty_tuple_dic, ty_list_non, ty_list_bl, ty_list_int, ty_list_str, ty_list_tup, ty_list_lst, ty_list_dic, ty_dict_non, ty_dict_bl, ty_dict_int, ty_dict_str, ty_dict_tup, ty_dict_lst, ty_dict_dic, ty_err_exn, ty_own_exn, bi_len_scr, bi_len_tup, bi_len_lst, bi_tuple_lst, bi_tuple_tup, bi_list_lst, bi_list_tup, bi_max, bi_min, mt_append, mt_part, mt_split, mt_splitN, mt_join, sl_tup, sl_lst, seqV, end_raw, Option.bind_some, Option.map_some, chk_nil, List.append_nil, okR_ok, okQ_ok, c_ins, c_nins, Int.cast_ofNat_Int, List.length_cons, List.length_nil, List.cons.injEq, and_self, and_true, true_and, and_false, false_and, Nat.zero_add, not_true_eq_false, not_false_eq_true, Bool.true_and, Bool.and_true, Bool.false_and, Bool.and_false, Bool.true_or, Bool.or_true, Bool.false_or, Bool.or_false, beq_self_eq_true, eq_self, evSs, b_10, e3, flc_1, noneD, vEnd, sForm, Nat.reduceBEq, Int.reduceBEq, String.reduceBEq, String.reduceEq, Nat.reduceEqDiff, reduceCtorEq, Int.reduceNeg, Int.reduceLT, Int.reduceLE, Int.reduceEq, Int.reduceAdd, Int.reduceSub, Nat.reduceLT, Nat.reduceLeDiff, Nat.reduceAdd, Nat.reduceSub, Nat.reduceEqDiff]
theorem at2 {α : Type} {x y z : α} {xs : List α} : L2.atI (x :: y :: z :: xs) 2 = some z := by
  have := L2.atI_nat (xs := x :: y :: z :: xs) (j := 2) (v := z) rfl
  exact this
theorem lact_tail {n k : Nat} (hn : 5 ≤ n) {h : Hs} {a b c : D} {p1 p2 : Option D} {secs : List D} (hc : c = .lst secs ∨ ∃ i, c = .ref i ∧ h[i]? = some (.lst secs)) (hg : ∀ s ∈ secs, Gd (k + 2) s) (hl : secs.length ≤ 8) :
    ∃ t, finQ (evSs gl (callN gl Fs n) [.asg (.nm 3) (.lst [] true), .for_ (.tp [.nm 4, .nm 5]) (.enum (.ix (.var 0) (.cst (.int 2))) 0) [.asg (.nm 6) (.call 14 [.var 4, .var 5, .var 3] .pure), .ite (.cmp .IsNot (.var 6) (.cst .non)) [.ret (some (.var 6))] [], .ex (.mt .append (.var 3) [.ix (.var 5) (.cst (.int 0))])], .ret (some (.cst .non))]
      [some (.tup [a, b, c]), p1, p2, none, none, none, none] h) = .ok (secsDue 0 secs []) (h ++ t) := by
  have key := lsecs (k := k) hn (h := h) (secs := secs) (src := srcOf c secs) (a0 := some (.tup [a, b, c])) (a1 := p1) (a2 := p2) (fun labs => by
    rcases hc with rfl | ⟨i, rfl, hi⟩
    · rfl
    · have hlt := (List.getElem?_eq_some_iff.mp hi).1
      simp only [srcOf, chk, List.all_cons, List.all_nil, Bool.and_true]
      rw [List.getElem?_append_left hlt, hi]
      exact decide_eq_true rfl) hg hl
  have ev1 : ∃ q, evSs gl (callN gl Fs n) [.asg (.nm 3) (.lst [] true), .for_ (.tp [.nm 4, .nm 5]) (.enum (.ix (.var 0) (.cst (.int 2))) 0) [.asg (.nm 6) (.call 14 [.var 4, .var 5, .var 3] .pure), .ite (.cmp .IsNot (.var 6) (.cst .non)) [.ret (some (.var 6))] [], .ex (.mt .append (.var 3) [.ix (.var 5) (.cst (.int 0))])], .ret (some (.cst .non))]
      [some (.tup [a, b, c]), p1, p2, none, none, none, none] h = q.bind (fun sl h => .ok (.rt .non) sl h) ∧
      q = forL (srcOf c secs) (forF gl (callN gl Fs n) (.tp [.nm 4, .nm 5]) [.asg (.nm 6) (.call 14 [.var 4, .var 5, .var 3] .pure), .ite (.cmp .IsNot (.var 6) (.cst .non)) [.ret (some (.var 6))] [], .ex (.mt .append (.var 3) [.ix (.var 5) (.cst (.int 0))])]) (enumL 0 secs) [some (.tup [a, b, c]), p1, p2, some (.ref h.length), none, none, none] (h ++ [.lst []]) := by
    refine ⟨_, ?_, rfl⟩
    rcases hc with rfl | ⟨i, rfl, hi⟩
    · simp (config := {implicitDefEqProofs := false}) only [evSs_nil, nx_nx, nx_rt, evS.eq_1, evS.eq_2, evS.eq_3, evS.eq_4, evS.eq_5, evS.eq_6, evS.eq_7, evS_for, evS.eq_9, evS.eq_10, evS.eq_11, evS.eq_12, evS.eq_13, evS.eq_14, evE, evEs, evO, evC, evI, R.bind_ok, R.bind_exc, R.q_ok, R.q_exc, R.of_some, R.nox_ok, Q.bind_nx, Q.bind_rt, Q.bind_bk, Q.bind_ct, Q.bind_exc, fin_rt, fin_nx, fin_exc, List.getElem?_cons_zero, List.getElem?_cons_succ, List.set_cons_zero, List.set_cons_succ, asgT, asgTs, lstOf, wipeS, srcOf, lstV, if_true, if_false, Bool.false_eq_true, Bool.true_eq_false, Bool.not_true, Bool.not_false, decide_true, decide_false, t_bl, t_int, t_non, t_tup, t_lst, c_lt, c_le, c_gt, c_ge, c_eqi, c_nei, c_eqs, c_nes, c_isN, c_isnN, c_isB, c_isnB, b_add, b_sub, ix_tup, ix_frz, ix_scr, at0, at1, isTys_nil, isTys_cons, ty_int_non, ty_int_bl, ty_int_int, ty_int_str, ty_int_tup, ty_int_lst, ty_int_dic, ty_bool_non, ty_bool_bl, ty_bool_int, ty_bool_str, ty_bool_tup, ty_bool_lst, ty_bool_dic, ty_str_non, ty_str_bl, ty_str_int, ty_str_str, ty_str_tup, ty_str_lst, ty_str_dic, ty_tuple_non, ty_tuple_bl, ty_tuple_int, ty_tuple_str, ty_tuple_tup, ty_tuple_lst, ty_tuple_dic, ty_list_non, ty_list_bl, ty_list_int, ty_list_str, ty_list_tup, ty_list_lst, ty_list_dic, ty_dict_non, ty_dict_bl, ty_dict_int, ty_dict_str, ty_dict_tup, ty_dict_lst, ty_dict_dic, ty_err_exn, ty_own_exn, bi_len_scr, bi_len_tup, bi_len_lst, bi_tuple_lst, bi_tuple_tup, bi_list_lst, bi_list_tup, bi_max, bi_min, mt_append, mt_part, mt_split, mt_splitN, mt_join, sl_tup, sl_lst, seqV, end_raw, Option.bind_some, Option.map_some, chk_nil, List.append_nil, okR_ok, okQ_ok, c_ins, c_nins, Int.cast_ofNat_Int, List.length_cons, List.length_nil, List.cons.injEq, and_self, and_true, true_and, and_false, false_and, Nat.zero_add, not_true_eq_false, not_false_eq_true, Bool.true_and, Bool.and_true, Bool.false_and, Bool.and_false, Bool.true_or, Bool.or_true, Bool.false_or, Bool.or_false, beq_self_eq_true, eq_self, evSs, at2, Nat.reduceBEq, Int.reduceBEq, String.reduceBEq, String.reduceEq, Nat.reduceEqDiff, reduceCtorEq, Int.reduceNeg, Int.reduceLT, Int.reduceLE, Int.reduceEq, Int.reduceAdd, Int.reduceSub, Nat.reduceLT, Nat.reduceLeDiff, Nat.reduceAdd, Nat.reduceSub, Nat.reduceEqDiff]
    · have hlt := (List.getElem?_eq_some_iff.mp hi).1
      have hi2 : (h ++ [Nd.lst []])[i]? = some (.lst secs) := by rw [List.getElem?_append_left hlt, hi]
      simp (config := {implicitDefEqProofs := false}) only [evSs_nil, nx_nx, nx_rt, evS.eq_1, evS.eq_2, evS.eq_3, evS.eq_4, evS.eq_5, evS.eq_6, evS.eq_7, evS_for, evS.eq_9, evS.eq_10, evS.eq_11, evS.eq_12, evS.eq_13, evS.eq_14, evE, evEs, evO, evC, evI, R.bind_ok, R.bind_exc, R.q_ok, R.q_exc, R.of_some, R.nox_ok, Q.bind_nx, Q.bind_rt, Q.bind_bk, Q.bind_ct, Q.bind_exc, fin_rt, fin_nx, fin_exc, List.getElem?_cons_zero, List.getElem?_cons_succ, List.set_cons_zero, List.set_cons_succ, asgT, asgTs, lstOf, wipeS, srcOf, lstV, if_true, if_false, Bool.false_eq_true, Bool.true_eq_false, Bool.not_true, Bool.not_false, decide_true, decide_false, t_bl, t_int, t_non, t_tup, t_lst, c_lt, c_le, c_gt, c_ge, c_eqi, c_nei, c_eqs, c_nes, c_isN, c_isnN, c_isB, c_isnB, b_add, b_sub, ix_tup, ix_frz, ix_scr, at0, at1, isTys_nil, isTys_cons, ty_int_non, ty_int_bl, ty_int_int, ty_int_str, ty_int_tup, ty_int_lst, ty_int_dic, ty_bool_non, ty_bool_bl, ty_bool_int, ty_bool_str, ty_bool_tup, ty_bool_lst, ty_bool_dic, ty_str_non, ty_str_bl, ty_str_int, ty_str_str, ty_str_tup, ty_str_lst, ty_str_dic, ty_tuple_non, ty_tuple_bl, ty_tuple_int, ty_tuple_str, ty_tuple_tup, ty_tuple_lst, ty_tuple_dic, ty_list_non, ty_list_bl, ty_list_int, ty_list_str, ty_list_tup, ty_list_lst, ty_list_dic, ty_dict_non, ty_dict_bl, ty_dict_int, ty_dict_str, ty_dict_tup, ty_dict_lst, ty_dict_dic, ty_err_exn, ty_own_exn, bi_len_scr, bi_len_tup, bi_len_lst, bi_tuple_lst, bi_tuple_tup, bi_list_lst, bi_list_tup, bi_max, bi_min, mt_append, mt_part, mt_split, mt_splitN, mt_join, sl_tup, sl_lst, seqV, end_raw, Option.bind_some, Option.map_some, chk_nil, List.append_nil, okR_ok, okQ_ok, c_ins, c_nins, Int.cast_ofNat_Int, List.length_cons, List.length_nil, List.cons.injEq, and_self, and_true, true_and, and_false, false_and, Nat.zero_add, not_true_eq_false, not_false_eq_true, Bool.true_and, Bool.and_true, Bool.false_and, Bool.and_false, Bool.true_or, Bool.or_true, Bool.false_or, Bool.or_false, beq_self_eq_true, eq_self, evSs, at2, hi2, seqN, Nat.reduceBEq, Int.reduceBEq, String.reduceBEq, String.reduceEq, Nat.reduceEqDiff, reduceCtorEq, Int.reduceNeg, Int.reduceLT, Int.reduceLE, Int.reduceEq, Int.reduceAdd, Int.reduceSub, Nat.reduceLT, Nat.reduceLeDiff, Nat.reduceAdd, Nat.reduceSub, Nat.reduceEqDiff]
  obtain ⟨q, e1, e2⟩ := ev1
  rw [e1, e2]
  rcases key with ⟨e, sl', labs', e3⟩ | ⟨p, r, e, _, sl', labs', e3⟩
  · rw [e3, e]
    exact ⟨_, rfl⟩
  · rw [e3, e]
    exact ⟨_, rfl⟩
theorem lact {m k : Nat} (hm : 6 ≤ m) {h : Hs} {v : D} (hv : Ok h k v) : ∃ t, callN gl Fs m 15 [v] h = .ok (actDue h v) (h ++ t) := by
  obtain ⟨n, rfl⟩ : ∃ n, m = n + 1 := ⟨m - 1, by omega⟩
  rw [c_15]
  have main : ∀ {a b c : D}, Gd (k + 3) a → Gd (k + 3) b → ((∃ secs, (c = .lst secs ∨ ∃ i, c = .ref i ∧ h[i]? = some (.lst secs)) ∧ ∀ s ∈ secs, Gd (k + 2) s) ∨ (Gd (k + 3) c ∧ ∀ xs, c ≠ .lst xs)) →
      ∃ t, finQ (evSs gl (callN gl Fs n) b_15 [some (.tup [a, b, c]), none, none, none, none, none, none] h) = .ok (actDue h (.tup [a, b, c])) (h ++ t) := fun {a b c} ga gb gc => by
    have f1 : ∀ {p1 p2 : Option D} (p : List Nat) (b' : Bool), forF gl (callN gl Fs n) (.tp [.nm 1, .nm 2]) [.ite (.not (.var 2)) [.ret (some (.tup [.var 1, .cst .non]))] []] (.tup [.str p, .bl b']) [some (.tup [a, b, c]), p1, p2, none, none, none, none] h =
        if b' then .ok .nx [some (.tup [a, b, c]), some (.str p), some (.bl b'), none, none, none, none] h else .ok (.rt (.tup [.str p, .non])) [some (.tup [a, b, c]), some (.str p), some (.bl b'), none, none, none, none] h := fun {p1 p2} p b' => by
      cases b' <;> simp (config := {implicitDefEqProofs := false}) only [evSs_nil, nx_nx, nx_rt, evS.eq_1, evS.eq_2, evS.eq_3, evS.eq_4, evS.eq_5, evS.eq_6, evS.eq_7, evS_for, evS.eq_9, evS.eq_10, evS.eq_11, evS.eq_12, evS.eq_13, evS.eq_14, evE, evEs, evO, evC, evI, R.bind_ok, R.bind_exc, R.q_ok, R.q_exc, R.of_some, R.nox_ok, Q.bind_nx, Q.bind_rt, Q.bind_bk, Q.bind_ct, Q.bind_exc, fin_rt, fin_nx, fin_exc, List.getElem?_cons_zero, List.getElem?_cons_succ, List.set_cons_zero, List.set_cons_succ, asgT, asgTs, lstOf, wipeS, srcOf, lstV, if_true, if_false, Bool.false_eq_true, Bool.true_eq_false, Bool.not_true, Bool.not_false, decide_true, decide_false, t_bl, t_int, t_non, t_tup, t_lst, c_lt, c_le, c_gt, c_ge, c_eqi, c_nei, c_eqs, c_nes, c_isN, c_isnN, c_isB, c_isnB, b_add, b_sub, ix_tup, ix_frz, ix_scr, at0, at1, isTys_nil, isTys_cons, ty_int_non, ty_int_bl, ty_int_int, ty_int_str, ty_int_tup, ty_int_lst, ty_int_dic, ty_bool_non, ty_bool_bl, ty_bool_int, ty_bool_str, ty_bool_tup, ty_bool_lst, ty_bool_dic, ty_str_non, ty_str_bl, ty_str_int, ty_str_str, ty_str_tup, ty_str_lst, ty_str_dic, ty_tuple_non, ty_tuple_bl, ty_tuple_int, ty_tuple_str, ty_tuple_tup, ty_tuple_lst, ty_tuple_dic, ty_list_non, ty_list_bl, ty_list_int, ty_list_str, ty_list_tup, ty_list_lst, ty_list_dic, ty_dict_non, ty_dict_bl, ty_dict_int, ty_dict_str, ty_dict_tup, ty_dict_lst, ty_dict_dic, ty_err_exn, ty_own_exn, bi_len_scr, bi_len_tup, bi_len_lst, bi_tuple_lst, bi_tuple_tup, bi_list_lst, bi_list_tup, bi_max, bi_min, mt_append, mt_part, mt_split, mt_splitN, mt_join, sl_tup, sl_lst, seqV, end_raw, Option.bind_some, Option.map_some, chk_nil, List.append_nil, okR_ok, okQ_ok, c_ins, c_nins, Int.cast_ofNat_Int, List.length_cons, List.length_nil, List.cons.injEq, and_self, and_true, true_and, and_false, false_and, Nat.zero_add, not_true_eq_false, not_false_eq_true, Bool.true_and, Bool.and_true, Bool.false_and, Bool.and_false, Bool.true_or, Bool.or_true, Bool.false_or, Bool.or_false, beq_self_eq_true, eq_self, evSs, forF, Nat.reduceBEq, Int.reduceBEq, String.reduceBEq, String.reduceEq, Nat.reduceEqDiff, reduceCtorEq, Int.reduceNeg, Int.reduceLT, Int.reduceLE, Int.reduceEq, Int.reduceAdd, Int.reduceSub, Nat.reduceLT, Nat.reduceLeDiff, Nat.reduceAdd, Nat.reduceSub, Nat.reduceEqDiff]
    cases en : isName a with
    | false =>
      refine ⟨[], ?_⟩
      have fl : forL [] (forF gl (callN gl Fs n) (.tp [.nm 1, .nm 2]) [.ite (.not (.var 2)) [.ret (some (.tup [.var 1, .cst .non]))] []]) [.tup [.str [110, 97, 109, 101], .bl false], .tup [.str [100, 97, 121], .bl (isDay b)]] [some (.tup [a, b, c]), none, none, none, none, none, none] h = .ok (.rt (.tup [.str [110, 97, 109, 101], .non])) [some (.tup [a, b, c]), some (.str [110, 97, 109, 101]), some (.bl false), none, none, none, none] h := by
        rw [forL_stop rfl (by rw [f1]; exact .inr ⟨_, _, _, rfl⟩), f1]
        rfl
      simp (config := {implicitDefEqProofs := false}) only [evSs_nil, nx_nx, nx_rt, evS.eq_1, evS.eq_2, evS.eq_3, evS.eq_4, evS.eq_5, evS.eq_6, evS.eq_7, evS_for, evS.eq_9, evS.eq_10, evS.eq_11, evS.eq_12, evS.eq_13, evS.eq_14, evE, evEs, evO, evC, evI, R.bind_ok, R.bind_exc, R.q_ok, R.q_exc, R.of_some, R.nox_ok, Q.bind_nx, Q.bind_rt, Q.bind_bk, Q.bind_ct, Q.bind_exc, fin_rt, fin_nx, fin_exc, List.getElem?_cons_zero, List.getElem?_cons_succ, List.set_cons_zero, List.set_cons_succ, asgT, asgTs, lstOf, wipeS, srcOf, lstV, if_true, if_false, Bool.false_eq_true, Bool.true_eq_false, Bool.not_true, Bool.not_false, decide_true, decide_false, t_bl, t_int, t_non, t_tup, t_lst, c_lt, c_le, c_gt, c_ge, c_eqi, c_nei, c_eqs, c_nes, c_isN, c_isnN, c_isB, c_isnB, b_add, b_sub, ix_tup, ix_frz, ix_scr, at0, at1, isTys_nil, isTys_cons, ty_int_non, ty_int_bl, ty_int_int, ty_int_str, ty_int_tup, ty_int_lst, ty_int_dic, ty_bool_non, ty_bool_bl, ty_bool_int, ty_bool_str, ty_bool_tup, ty_bool_lst, ty_bool_dic, ty_str_non, ty_str_bl, ty_str_int, ty_str_str, ty_str_tup, ty_str_lst, ty_str_dic, ty_tuple_non, ty_tuple_bl, ty_tuple_int, ty_tuple_str, ty_tuple_tup, ty_tuple_lst, ty_tuple_dic, ty_list_non, ty_list_bl, ty_list_int, ty_list_str, ty_list_tup, ty_list_lst, ty_list_dic, ty_dict_non, ty_dict_bl, ty_dict_int, ty_dict_str, ty_dict_tup, ty_dict_lst, ty_dict_dic, ty_err_exn, ty_own_exn, bi_len_scr, bi_len_tup, bi_len_lst, bi_tuple_lst, bi_tuple_tup, bi_list_lst, bi_list_tup, bi_max, bi_min, mt_append, mt_part, mt_split, mt_splitN, mt_join, sl_tup, sl_lst, seqV, end_raw, Option.bind_some, Option.map_some, chk_nil, List.append_nil, okR_ok, okQ_ok, c_ins, c_nins, Int.cast_ofNat_Int, List.length_cons, List.length_nil, List.cons.injEq, and_self, and_true, true_and, and_false, false_and, Nat.zero_add, not_true_eq_false, not_false_eq_true, Bool.true_and, Bool.and_true, Bool.false_and, Bool.and_false, Bool.true_or, Bool.or_true, Bool.false_or, Bool.or_false, beq_self_eq_true, eq_self, evSs, b_15, name3 (show 2 ≤ n by omega) ga, en, end_pure0 (show pl 40 (.bl false) = true from rfl), day6 (show 3 ≤ n by omega) gb, end_pure0 (show pl 40 (.bl (isDay b)) = true from rfl), fl, actDue, noneD, sName, Nat.reduceBEq, Int.reduceBEq, String.reduceBEq, String.reduceEq, Nat.reduceEqDiff, reduceCtorEq, Int.reduceNeg, Int.reduceLT, Int.reduceLE, Int.reduceEq, Int.reduceAdd, Int.reduceSub, Nat.reduceLT, Nat.reduceLeDiff, Nat.reduceAdd, Nat.reduceSub, Nat.reduceEqDiff]
    | true =>
      cases ed : isDay b with
      | false =>
        refine ⟨[], ?_⟩
        have fl : forL [] (forF gl (callN gl Fs n) (.tp [.nm 1, .nm 2]) [.ite (.not (.var 2)) [.ret (some (.tup [.var 1, .cst .non]))] []]) [.tup [.str [110, 97, 109, 101], .bl true], .tup [.str [100, 97, 121], .bl false]] [some (.tup [a, b, c]), none, none, none, none, none, none] h = .ok (.rt (.tup [.str [100, 97, 121], .non])) [some (.tup [a, b, c]), some (.str [100, 97, 121]), some (.bl false), none, none, none, none] h := by
          rw [forL_go rfl (by rw [f1]; rfl), forL_stop rfl (by rw [f1]; exact .inr ⟨_, _, _, rfl⟩), f1]
          rfl
        simp (config := {implicitDefEqProofs := false}) only [evSs_nil, nx_nx, nx_rt, evS.eq_1, evS.eq_2, evS.eq_3, evS.eq_4, evS.eq_5, evS.eq_6, evS.eq_7, evS_for, evS.eq_9, evS.eq_10, evS.eq_11, evS.eq_12, evS.eq_13, evS.eq_14, evE, evEs, evO, evC, evI, R.bind_ok, R.bind_exc, R.q_ok, R.q_exc, R.of_some, R.nox_ok, Q.bind_nx, Q.bind_rt, Q.bind_bk, Q.bind_ct, Q.bind_exc, fin_rt, fin_nx, fin_exc, List.getElem?_cons_zero, List.getElem?_cons_succ, List.set_cons_zero, List.set_cons_succ, asgT, asgTs, lstOf, wipeS, srcOf, lstV, if_true, if_false, Bool.false_eq_true, Bool.true_eq_false, Bool.not_true, Bool.not_false, decide_true, decide_false, t_bl, t_int, t_non, t_tup, t_lst, c_lt, c_le, c_gt, c_ge, c_eqi, c_nei, c_eqs, c_nes, c_isN, c_isnN, c_isB, c_isnB, b_add, b_sub, ix_tup, ix_frz, ix_scr, at0, at1, isTys_nil, isTys_cons, ty_int_non, ty_int_bl, ty_int_int, ty_int_str, ty_int_tup, ty_int_lst, ty_int_dic, ty_bool_non, ty_bool_bl, ty_bool_int, ty_bool_str, ty_bool_tup, ty_bool_lst, ty_bool_dic, ty_str_non, ty_str_bl, ty_str_int, ty_str_str, ty_str_tup, ty_str_lst, ty_str_dic, ty_tuple_non, ty_tuple_bl, ty_tuple_int, ty_tuple_str, ty_tuple_tup, ty_tuple_lst, ty_tuple_dic, ty_list_non, ty_list_bl, ty_list_int, ty_list_str, ty_list_tup, ty_list_lst, ty_list_dic, ty_dict_non, ty_dict_bl, ty_dict_int, ty_dict_str, ty_dict_tup, ty_dict_lst, ty_dict_dic, ty_err_exn, ty_own_exn, bi_len_scr, bi_len_tup, bi_len_lst, bi_tuple_lst, bi_tuple_tup, bi_list_lst, bi_list_tup, bi_max, bi_min, mt_append, mt_part, mt_split, mt_splitN, mt_join, sl_tup, sl_lst, seqV, end_raw, Option.bind_some, Option.map_some, chk_nil, List.append_nil, okR_ok, okQ_ok, c_ins, c_nins, Int.cast_ofNat_Int, List.length_cons, List.length_nil, List.cons.injEq, and_self, and_true, true_and, and_false, false_and, Nat.zero_add, not_true_eq_false, not_false_eq_true, Bool.true_and, Bool.and_true, Bool.false_and, Bool.and_false, Bool.true_or, Bool.or_true, Bool.false_or, Bool.or_false, beq_self_eq_true, eq_self, evSs, b_15, name3 (show 2 ≤ n by omega) ga, en, end_pure0 (show pl 40 (.bl true) = true from rfl), day6 (show 3 ≤ n by omega) gb, ed, end_pure0 (show pl 40 (.bl false) = true from rfl), fl, actDue, noneD, sDay, Nat.reduceBEq, Int.reduceBEq, String.reduceBEq, String.reduceEq, Nat.reduceEqDiff, reduceCtorEq, Int.reduceNeg, Int.reduceLT, Int.reduceLE, Int.reduceEq, Int.reduceAdd, Int.reduceSub, Nat.reduceLT, Nat.reduceLeDiff, Nat.reduceAdd, Nat.reduceSub, Nat.reduceEqDiff]
      | true =>
        have fl : forL [] (forF gl (callN gl Fs n) (.tp [.nm 1, .nm 2]) [.ite (.not (.var 2)) [.ret (some (.tup [.var 1, .cst .non]))] []]) [.tup [.str [110, 97, 109, 101], .bl true], .tup [.str [100, 97, 121], .bl true]] [some (.tup [a, b, c]), none, none, none, none, none, none] h = .ok .nx [some (.tup [a, b, c]), some (.str [100, 97, 121]), some (.bl true), none, none, none, none] h := by
          rw [forL_go rfl (by rw [f1]; rfl), forL_go rfl (by rw [f1]; rfl)]
          rfl
        rcases gc with ⟨secs, hc, hg⟩ | ⟨gc, hnl⟩
        · have el : lstV h c = some secs := by
            rcases hc with rfl | ⟨i, rfl, hi⟩
            · rfl
            · simp only [lstV, hi, Option.bind_some, seqN]
          have ty : isTy gl h c .list = some true := by
            rcases hc with rfl | ⟨i, rfl, hi⟩
            · rfl
            · exact ty_list_ref hi
          have bl : biD .len false [c] h = .ok (.int secs.length) h := by
            rcases hc with rfl | ⟨i, rfl, hi⟩
            · rfl
            · exact bi_len_ref hi
          have e8 : (8 : Int) < (secs.length : Nat) ↔ ¬ secs.length ≤ 8 := by omega
          have ea : actDue h (.tup [a, b, c]) = if secs.length ≤ 8 then secsDue 0 secs [] else noneD sSecs := by simp only [actDue, en, ed, el, if_true]
          rw [ea]
          by_cases h8 : secs.length ≤ 8
          · rw [if_pos h8]
            obtain ⟨t, q⟩ := lact_tail (show 5 ≤ n by omega) (a := a) (b := b) (p1 := some (.str [100, 97, 121])) (p2 := some (.bl true)) hc hg h8
            refine ⟨t, ?_⟩
            rw [← q]
            have st : ∀ ss : List S, evSs gl (callN gl Fs n) (b_15.take 3 ++ ss) [some (.tup [a, b, c]), none, none, none, none, none, none] h = evSs gl (callN gl Fs n) ss [some (.tup [a, b, c]), some (.str [100, 97, 121]), some (.bl true), none, none, none, none] h := fun ss => by
              simp (config := {implicitDefEqProofs := false}) only [evSs_nil, nx_nx, nx_rt, evS.eq_1, evS.eq_2, evS.eq_3, evS.eq_4, evS.eq_5, evS.eq_6, evS.eq_7, evS_for, evS.eq_9, evS.eq_10, evS.eq_11, evS.eq_12, evS.eq_13, evS.eq_14, evE, evEs, evO, evC, evI, R.bind_ok, R.bind_exc, R.q_ok, R.q_exc, R.of_some, R.nox_ok, Q.bind_nx, Q.bind_rt, Q.bind_bk, Q.bind_ct, Q.bind_exc, fin_rt, fin_nx, fin_exc, List.getElem?_cons_zero, List.getElem?_cons_succ, List.set_cons_zero, List.set_cons_succ, asgT, asgTs, lstOf, wipeS, srcOf, lstV, if_true, if_false, Bool.false_eq_true, Bool.true_eq_false, Bool.not_true, Bool.not_false, decide_true, decide_false, t_bl, t_int, t_non, t_tup, t_lst, c_lt, c_le, c_gt, c_ge, c_eqi, c_nei, c_eqs, c_nes, c_isN, c_isnN, c_isB, c_isnB, b_add, b_sub, ix_tup, ix_frz, ix_scr, at0, at1, isTys_nil, isTys_cons, ty_int_non, ty_int_bl, ty_int_int, ty_int_str, ty_int_tup, ty_int_lst, ty_int_dic, ty_bool_non, ty_bool_bl, ty_bool_int, ty_bool_str, ty_bool_tup, ty_bool_lst, ty_bool_dic, ty_str_non, ty_str_bl, ty_str_int, ty_str_str, ty_str_tup, ty_str_lst, ty_str_dic, ty_tuple_non, ty_tuple_bl, ty_tuple_int, ty_tuple_str, ty_tuple_tup, ty_tuple_lst, ty_tuple_dic, ty_list_non, ty_list_bl, ty_list_int, ty_list_str, ty_list_tup, ty_list_lst, ty_list_dic, ty_dict_non, ty_dict_bl, ty_dict_int, ty_dict_str, ty_dict_tup, ty_dict_lst, ty_dict_dic, ty_err_exn, ty_own_exn, bi_len_scr, bi_len_tup, bi_len_lst, bi_tuple_lst, bi_tuple_tup, bi_list_lst, bi_list_tup, bi_max, bi_min, mt_append, mt_part, mt_split, mt_splitN, mt_join, sl_tup, sl_lst, seqV, end_raw, Option.bind_some, Option.map_some, chk_nil, List.append_nil, okR_ok, okQ_ok, c_ins, c_nins, Int.cast_ofNat_Int, List.length_cons, List.length_nil, List.cons.injEq, and_self, and_true, true_and, and_false, false_and, Nat.zero_add, not_true_eq_false, not_false_eq_true, Bool.true_and, Bool.and_true, Bool.false_and, Bool.and_false, Bool.true_or, Bool.or_true, Bool.false_or, Bool.or_false, beq_self_eq_true, eq_self, b_15, List.take, List.cons_append, List.nil_append, Nat.reduceBEq, Int.reduceBEq, String.reduceBEq, String.reduceEq, Nat.reduceEqDiff, reduceCtorEq, Int.reduceNeg, Int.reduceLT, Int.reduceLE, Int.reduceEq, Int.reduceAdd, Int.reduceSub, Nat.reduceLT, Nat.reduceLeDiff, Nat.reduceAdd, Nat.reduceSub, Nat.reduceEqDiff]
              simp (config := {implicitDefEqProofs := false}) only [evSs.eq_2]
              simp (config := {implicitDefEqProofs := false}) only [evSs_nil, nx_nx, nx_rt, evS.eq_1, evS.eq_2, evS.eq_3, evS.eq_4, evS.eq_5, evS.eq_6, evS.eq_7, evS_for, evS.eq_9, evS.eq_10, evS.eq_11, evS.eq_12, evS.eq_13, evS.eq_14, evE, evEs, evO, evC, evI, R.bind_ok, R.bind_exc, R.q_ok, R.q_exc, R.of_some, R.nox_ok, Q.bind_nx, Q.bind_rt, Q.bind_bk, Q.bind_ct, Q.bind_exc, fin_rt, fin_nx, fin_exc, List.getElem?_cons_zero, List.getElem?_cons_succ, List.set_cons_zero, List.set_cons_succ, asgT, asgTs, lstOf, wipeS, srcOf, lstV, if_true, if_false, Bool.false_eq_true, Bool.true_eq_false, Bool.not_true, Bool.not_false, decide_true, decide_false, t_bl, t_int, t_non, t_tup, t_lst, c_lt, c_le, c_gt, c_ge, c_eqi, c_nei, c_eqs, c_nes, c_isN, c_isnN, c_isB, c_isnB, b_add, b_sub, ix_tup, ix_frz, ix_scr, at0, at1, isTys_nil, isTys_cons, ty_int_non, ty_int_bl, ty_int_int, ty_int_str, ty_int_tup, ty_int_lst, ty_int_dic, ty_bool_non, ty_bool_bl, ty_bool_int, ty_bool_str, ty_bool_tup, ty_bool_lst, ty_bool_dic, ty_str_non, ty_str_bl, ty_str_int, ty_str_str, ty_str_tup, ty_str_lst, ty_str_dic, ty_tuple_non, ty_tuple_bl, ty_tuple_int, ty_tuple_str, ty_tuple_tup, ty_tuple_lst, ty_tuple_dic, ty_list_non, ty_list_bl, ty_list_int, ty_list_str, ty_list_tup, ty_list_lst, ty_list_dic, ty_dict_non, ty_dict_bl, ty_dict_int, ty_dict_str, ty_dict_tup, ty_dict_lst, ty_dict_dic, ty_err_exn, ty_own_exn, bi_len_scr, bi_len_tup, bi_len_lst, bi_tuple_lst, bi_tuple_tup, bi_list_lst, bi_list_tup, bi_max, bi_min, mt_append, mt_part, mt_split, mt_splitN, mt_join, sl_tup, sl_lst, seqV, end_raw, Option.bind_some, Option.map_some, chk_nil, List.append_nil, okR_ok, okQ_ok, c_ins, c_nins, Int.cast_ofNat_Int, List.length_cons, List.length_nil, List.cons.injEq, and_self, and_true, true_and, and_false, false_and, Nat.zero_add, not_true_eq_false, not_false_eq_true, Bool.true_and, Bool.and_true, Bool.false_and, Bool.and_false, Bool.true_or, Bool.or_true, Bool.false_or, Bool.or_false, beq_self_eq_true, eq_self, name3 (show 2 ≤ n by omega) ga, en, end_pure0 (show pl 40 (.bl true) = true from rfl), day6 (show 3 ≤ n by omega) gb, ed, fl, at2, ty, bl, e8, h8, Nat.reduceBEq, Int.reduceBEq, String.reduceBEq, String.reduceEq, Nat.reduceEqDiff, reduceCtorEq, Int.reduceNeg, Int.reduceLT, Int.reduceLE, Int.reduceEq, Int.reduceAdd, Int.reduceSub, Nat.reduceLT, Nat.reduceLeDiff, Nat.reduceAdd, Nat.reduceSub, Nat.reduceEqDiff]
            exact congrArg finQ (st _)
          · rw [if_neg h8]
            refine ⟨[], ?_⟩
            simp (config := {implicitDefEqProofs := false}) only [evSs_nil, nx_nx, nx_rt, evS.eq_1, evS.eq_2, evS.eq_3, evS.eq_4, evS.eq_5, evS.eq_6, evS.eq_7, evS_for, evS.eq_9, evS.eq_10, evS.eq_11, evS.eq_12, evS.eq_13, evS.eq_14, evE, evEs, evO, evC, evI, R.bind_ok, R.bind_exc, R.q_ok, R.q_exc, R.of_some, R.nox_ok, Q.bind_nx, Q.bind_rt, Q.bind_bk, Q.bind_ct, Q.bind_exc, fin_rt, fin_nx, fin_exc, List.getElem?_cons_zero, List.getElem?_cons_succ, List.set_cons_zero, List.set_cons_succ, asgT, asgTs, lstOf, wipeS, srcOf, lstV, if_true, if_false, Bool.false_eq_true, Bool.true_eq_false, Bool.not_true, Bool.not_false, decide_true, decide_false, t_bl, t_int, t_non, t_tup, t_lst, c_lt, c_le, c_gt, c_ge, c_eqi, c_nei, c_eqs, c_nes, c_isN, c_isnN, c_isB, c_isnB, b_add, b_sub, ix_tup, ix_frz, ix_scr, at0, at1, isTys_nil, isTys_cons, ty_int_non, ty_int_bl, ty_int_int, ty_int_str, ty_int_tup, ty_int_lst, ty_int_dic, ty_bool_non, ty_bool_bl, ty_bool_int, ty_bool_str, ty_bool_tup, ty_bool_lst, ty_bool_dic, ty_str_non, ty_str_bl, ty_str_int, ty_str_str, ty_str_tup, ty_str_lst, ty_str_dic, ty_tuple_non, ty_tuple_bl, ty_tuple_int, ty_tuple_str, ty_tuple_tup, ty_tuple_lst, ty_tuple_dic, ty_list_non, ty_list_bl, ty_list_int, ty_list_str, ty_list_tup, ty_list_lst, ty_list_dic, ty_dict_non, ty_dict_bl, ty_dict_int, ty_dict_str, ty_dict_tup, ty_dict_lst, ty_dict_dic, ty_err_exn, ty_own_exn, bi_len_scr, bi_len_tup, bi_len_lst, bi_tuple_lst, bi_tuple_tup, bi_list_lst, bi_list_tup, bi_max, bi_min, mt_append, mt_part, mt_split, mt_splitN, mt_join, sl_tup, sl_lst, seqV, end_raw, Option.bind_some, Option.map_some, chk_nil, List.append_nil, okR_ok, okQ_ok, c_ins, c_nins, Int.cast_ofNat_Int, List.length_cons, List.length_nil, List.cons.injEq, and_self, and_true, true_and, and_false, false_and, Nat.zero_add, not_true_eq_false, not_false_eq_true, Bool.true_and, Bool.and_true, Bool.false_and, Bool.and_false, Bool.true_or, Bool.or_true, Bool.false_or, Bool.or_false, beq_self_eq_true, eq_self, evSs, b_15, name3 (show 2 ≤ n by omega) ga, en, end_pure0 (show pl 40 (.bl true) = true from rfl), day6 (show 3 ≤ n by omega) gb, ed, fl, at2, ty, bl, e8, h8, noneD, sSecs, Nat.reduceBEq, Int.reduceBEq, String.reduceBEq, String.reduceEq, Nat.reduceEqDiff, reduceCtorEq, Int.reduceNeg, Int.reduceLT, Int.reduceLE, Int.reduceEq, Int.reduceAdd, Int.reduceSub, Nat.reduceLT, Nat.reduceLeDiff, Nat.reduceAdd, Nat.reduceSub, Nat.reduceEqDiff]
        · refine ⟨[], ?_⟩
          cases c <;> first | (exact absurd rfl (hnl _)) | (cases gc.1; done) | (simp (config := {implicitDefEqProofs := false}) only [evSs_nil, nx_nx, nx_rt, evS.eq_1, evS.eq_2, evS.eq_3, evS.eq_4, evS.eq_5, evS.eq_6, evS.eq_7, evS_for, evS.eq_9, evS.eq_10, evS.eq_11, evS.eq_12, evS.eq_13, evS.eq_14, evE, evEs, evO, evC, evI, R.bind_ok, R.bind_exc, R.q_ok, R.q_exc, R.of_some, R.nox_ok, Q.bind_nx, Q.bind_rt, Q.bind_bk, Q.bind_ct, Q.bind_exc, fin_rt, fin_nx, fin_exc, List.getElem?_cons_zero, List.getElem?_cons_succ, List.set_cons_zero, List.set_cons_succ, asgT, asgTs, lstOf, wipeS, srcOf, lstV, if_true, if_false, Bool.false_eq_true, Bool.true_eq_false, Bool.not_true, Bool.not_false, decide_true, decide_false, t_bl, t_int, t_non, t_tup, t_lst, c_lt, c_le, c_gt, c_ge, c_eqi, c_nei, c_eqs, c_nes, c_isN, c_isnN, c_isB, c_isnB, b_add, b_sub, ix_tup, ix_frz, ix_scr, at0, at1, isTys_nil, isTys_cons, ty_int_non, ty_int_bl, ty_int_int, ty_int_str, ty_int_tup, ty_int_lst, ty_int_dic, ty_bool_non, ty_bool_bl, ty_bool_int, ty_bool_str, ty_bool_tup, ty_bool_lst, ty_bool_dic, ty_str_non, ty_str_bl, ty_str_int, ty_str_str, ty_str_tup, ty_str_lst, ty_str_dic, ty_tuple_non, ty_tuple_bl, ty_tuple_int, ty_tuple_str, ty_tuple_tup, ty_tuple_lst, ty_tuple_dic, ty_list_non, ty_list_bl, ty_list_int, ty_list_str, ty_list_tup, ty_list_lst, ty_list_dic, ty_dict_non, ty_dict_bl, ty_dict_int, ty_dict_str, ty_dict_tup, ty_dict_lst, ty_dict_dic, ty_err_exn, ty_own_exn, bi_len_scr, bi_len_tup, bi_len_lst, bi_tuple_lst, bi_tuple_tup, bi_list_lst, bi_list_tup, bi_max, bi_min, mt_append, mt_part, mt_split, mt_splitN, mt_join, sl_tup, sl_lst, seqV, end_raw, Option.bind_some, Option.map_some, chk_nil, List.append_nil, okR_ok, okQ_ok, c_ins, c_nins, Int.cast_ofNat_Int, List.length_cons, List.length_nil, List.cons.injEq, and_self, and_true, true_and, and_false, false_and, Nat.zero_add, not_true_eq_false, not_false_eq_true, Bool.true_and, Bool.and_true, Bool.false_and, Bool.and_false, Bool.true_or, Bool.or_true, Bool.false_or, Bool.or_false, beq_self_eq_true, eq_self, evSs, b_15, name3 (show 2 ≤ n by omega) ga, en, end_pure0 (show pl 40 (.bl true) = true from rfl), day6 (show 3 ≤ n by omega) gb, ed, fl, at2, actDue, noneD, sSecs, Nat.reduceBEq, Int.reduceBEq, String.reduceBEq, String.reduceEq, Nat.reduceEqDiff, reduceCtorEq, Int.reduceNeg, Int.reduceLT, Int.reduceLE, Int.reduceEq, Int.reduceAdd, Int.reduceSub, Nat.reduceLT, Nat.reduceLeDiff, Nat.reduceAdd, Nat.reduceSub, Nat.reduceEqDiff])
  have bad : ∀ v, Gd (k + 4) v → (∀ a b c, v ≠ .tup [a, b, c]) → ∃ t, finQ (evSs gl (callN gl Fs n) b_15 [some v, none, none, none, none, none, none] h) = .ok (actDue h v) (h ++ t) := fun v gv hn => by
    refine ⟨[], ?_⟩
    have ea : actDue h v = noneD sForm := by
      unfold actDue
      split
      · exact absurd rfl (hn _ _ _)
      · rfl
    rw [ea]
    cases v with
    | tup xs =>
      have e3 : ((xs.length : Nat) : Int) = 3 ↔ False := ⟨fun z => by
        match xs, z with
        | [a, b, c], _ => exact hn _ _ _ rfl
        | [], z => simp at z
        | [_], z => simp at z
        | [_, _], z => simp at z
        | _ :: _ :: _ :: _ :: _, z => simp at z; omega, False.elim⟩
      simp (config := {implicitDefEqProofs := false}) only [evSs_nil, nx_nx, nx_rt, evS.eq_1, evS.eq_2, evS.eq_3, evS.eq_4, evS.eq_5, evS.eq_6, evS.eq_7, evS_for, evS.eq_9, evS.eq_10, evS.eq_11, evS.eq_12, evS.eq_13, evS.eq_14, evE, evEs, evO, evC, evI, R.bind_ok, R.bind_exc, R.q_ok, R.q_exc, R.of_some, R.nox_ok, Q.bind_nx, Q.bind_rt, Q.bind_bk, Q.bind_ct, Q.bind_exc, fin_rt, fin_nx, fin_exc, List.getElem?_cons_zero, List.getElem?_cons_succ, List.set_cons_zero, List.set_cons_succ, asgT, asgTs, lstOf, wipeS, srcOf, lstV, if_true, if_false, Bool.false_eq_true, Bool.true_eq_false, Bool.not_true, Bool.not_false, decide_true, decide_false, t_bl, t_int, t_non, t_tup, t_lst, c_lt, c_le, c_gt, c_ge, c_eqi, c_nei, c_eqs, c_nes, c_isN, c_isnN, c_isB, c_isnB, b_add, b_sub, ix_tup, ix_frz, ix_scr, at0, at1, isTys_nil, isTys_cons, ty_int_non, ty_int_bl, ty_int_int, ty_int_str, ty_int_tup, ty_int_lst, ty_int_dic, ty_bool_non, ty_bool_bl, ty_bool_int, ty_bool_str, ty_bool_tup, ty_bool_lst, ty_bool_dic, ty_str_non, ty_str_bl, ty_str_int, ty_str_str, ty_str_tup, ty_str_lst, ty_str_dic, ty_tuple_non, ty_tuple_bl, ty_tuple_int, ty_tuple_str, ty_tuple_tup, ty_tuple_lst, ty_tuple_dic, ty_list_non, ty_list_bl, ty_list_int, ty_list_str, ty_list_tup, ty_list_lst, ty_list_dic, ty_dict_non, ty_dict_bl, ty_dict_int, ty_dict_str, ty_dict_tup, ty_dict_lst, ty_dict_dic, ty_err_exn, ty_own_exn, bi_len_scr, bi_len_tup, bi_len_lst, bi_tuple_lst, bi_tuple_tup, bi_list_lst, bi_list_tup, bi_max, bi_min, mt_append, mt_part, mt_split, mt_splitN, mt_join, sl_tup, sl_lst, seqV, end_raw, Option.bind_some, Option.map_some, chk_nil, List.append_nil, okR_ok, okQ_ok, c_ins, c_nins, Int.cast_ofNat_Int, List.length_cons, List.length_nil, List.cons.injEq, and_self, and_true, true_and, and_false, false_and, Nat.zero_add, not_true_eq_false, not_false_eq_true, Bool.true_and, Bool.and_true, Bool.false_and, Bool.and_false, Bool.true_or, Bool.or_true, Bool.false_or, Bool.or_false, beq_self_eq_true, eq_self, evSs, b_15, e3, noneD, sForm, Nat.reduceBEq, Int.reduceBEq, String.reduceBEq, String.reduceEq, Nat.reduceEqDiff, reduceCtorEq, Int.reduceNeg, Int.reduceLT, Int.reduceLE, Int.reduceEq, Int.reduceAdd, Int.reduceSub, Nat.reduceLT, Nat.reduceLeDiff, Nat.reduceAdd, Nat.reduceSub, Nat.reduceEqDiff]
    | _ => first | (cases gv.1; done) | (simp (config := {implicitDefEqProofs := false}) only [evSs_nil, nx_nx, nx_rt, evS.eq_1, evS.eq_2, evS.eq_3, evS.eq_4, evS.eq_5, evS.eq_6, evS.eq_7, evS_for, evS.eq_9, evS.eq_10, evS.eq_11, evS.eq_12, evS.eq_13, evS.eq_14, evE, evEs, evO, evC, evI, R.bind_ok, R.bind_exc, R.q_ok, R.q_exc, R.of_some, R.nox_ok, Q.bind_nx, Q.bind_rt, Q.bind_bk, Q.bind_ct, Q.bind_exc, fin_rt, fin_nx, fin_exc, List.getElem?_cons_zero, List.getElem?_cons_succ, List.set_cons_zero, List.set_cons_succ, asgT, asgTs, lstOf, wipeS, srcOf, lstV, if_true, if_false, Bool.false_eq_true, Bool.true_eq_false, Bool.not_true, Bool.not_false, decide_true, decide_false, t_bl, t_int, t_non, t_tup, t_lst, c_lt, c_le, c_gt, c_ge, c_eqi, c_nei, c_eqs, c_nes, c_isN, c_isnN, c_isB, c_isnB, b_add, b_sub, ix_tup, ix_frz, ix_scr, at0, at1, isTys_nil, isTys_cons, ty_int_non, ty_int_bl, ty_int_int, ty_int_str, ty_int_tup, ty_int_lst, ty_int_dic, ty_bool_non, ty_bool_bl, ty_bool_int, ty_bool_str, ty_bool_tup, ty_bool_lst, ty_bool_dic, ty_str_non, ty_str_bl, ty_str_int, ty_str_str, ty_str_tup, ty_str_lst, ty_str_dic, ty_tuple_non, ty_tuple_bl, ty_tuple_int, ty_tuple_str, ty_tuple_tup, ty_tuple_lst, ty_tuple_dic, ty_list_non, ty_list_bl, ty_list_int, ty_list_str, ty_list_tup, ty_list_lst, ty_list_dic, ty_dict_non, ty_dict_bl, ty_dict_int, ty_dict_str, ty_dict_tup, ty_dict_lst, ty_dict_dic, ty_err_exn, ty_own_exn, bi_len_scr, bi_len_tup, bi_len_lst, bi_tuple_lst, bi_tuple_tup, bi_list_lst, bi_list_tup, bi_max, bi_min, mt_append, mt_part, mt_split, mt_splitN, mt_join, sl_tup, sl_lst, seqV, end_raw, Option.bind_some, Option.map_some, chk_nil, List.append_nil, okR_ok, okQ_ok, c_ins, c_nins, Int.cast_ofNat_Int, List.length_cons, List.length_nil, List.cons.injEq, and_self, and_true, true_and, and_false, false_and, Nat.zero_add, not_true_eq_false, not_false_eq_true, Bool.true_and, Bool.and_true, Bool.false_and, Bool.and_false, Bool.true_or, Bool.or_true, Bool.false_or, Bool.or_false, beq_self_eq_true, eq_self, evSs, b_15, noneD, sForm, Nat.reduceBEq, Int.reduceBEq, String.reduceBEq, String.reduceEq, Nat.reduceEqDiff, reduceCtorEq, Int.reduceNeg, Int.reduceLT, Int.reduceLE, Int.reduceEq, Int.reduceAdd, Int.reduceSub, Nat.reduceLT, Nat.reduceLeDiff, Nat.reduceAdd, Nat.reduceSub, Nat.reduceEqDiff])
  rcases hv.ex with gv | ⟨a, b, i, secs, rfl, ga, gb, hi, hg⟩ | ⟨xs, rfl⟩ | ⟨xs, rfl, hx⟩
  · by_cases h3 : ∃ a b c, v = .tup [a, b, c]
    · obtain ⟨a, b, c, rfl⟩ := h3
      obtain ⟨hx, _⟩ := gv.tup
      refine main (hx a (by simp)) (hx b (by simp)) ?_
      have gc := hx c (by simp)
      by_cases hl : ∃ secs, c = .lst secs
      · obtain ⟨secs, rfl⟩ := hl
        exact .inl ⟨secs, .inl rfl, gc.lst.1⟩
      · exact .inr ⟨gc, fun xs e => hl ⟨xs, e⟩⟩
    · exact bad v gv fun a b c e => h3 ⟨a, b, c, e⟩
  · exact main ga gb (.inl ⟨secs, .inr ⟨i, rfl, hi⟩, hg⟩)
  · refine ⟨[], ?_⟩
    have ea : actDue h (.lst xs) = noneD sForm := rfl
    rw [ea]
    simp (config := {implicitDefEqProofs := false}) only [evSs_nil, nx_nx, nx_rt, evS.eq_1, evS.eq_2, evS.eq_3, evS.eq_4, evS.eq_5, evS.eq_6, evS.eq_7, evS_for, evS.eq_9, evS.eq_10, evS.eq_11, evS.eq_12, evS.eq_13, evS.eq_14, evE, evEs, evO, evC, evI, R.bind_ok, R.bind_exc, R.q_ok, R.q_exc, R.of_some, R.nox_ok, Q.bind_nx, Q.bind_rt, Q.bind_bk, Q.bind_ct, Q.bind_exc, fin_rt, fin_nx, fin_exc, List.getElem?_cons_zero, List.getElem?_cons_succ, List.set_cons_zero, List.set_cons_succ, asgT, asgTs, lstOf, wipeS, srcOf, lstV, if_true, if_false, Bool.false_eq_true, Bool.true_eq_false, Bool.not_true, Bool.not_false, decide_true, decide_false, t_bl, t_int, t_non, t_tup, t_lst, c_lt, c_le, c_gt, c_ge, c_eqi, c_nei, c_eqs, c_nes, c_isN, c_isnN, c_isB, c_isnB, b_add, b_sub, ix_tup, ix_frz, ix_scr, at0, at1, isTys_nil, isTys_cons, ty_int_non, ty_int_bl, ty_int_int, ty_int_str, ty_int_tup, ty_int_lst, ty_int_dic, ty_bool_non, ty_bool_bl, ty_bool_int, ty_bool_str, ty_bool_tup, ty_bool_lst, ty_bool_dic, ty_str_non, ty_str_bl, ty_str_int, ty_str_str, ty_str_tup, ty_str_lst, ty_str_dic, ty_tuple_non, ty_tuple_bl, ty_tuple_int, ty_tuple_str, ty_tuple_tup, ty_tuple_lst, ty_tuple_dic, ty_list_non, ty_list_bl, ty_list_int, ty_list_str, ty_list_tup, ty_list_lst, ty_list_dic, ty_dict_non, ty_dict_bl, ty_dict_int, ty_dict_str, ty_dict_tup, ty_dict_lst, ty_dict_dic, ty_err_exn, ty_own_exn, bi_len_scr, bi_len_tup, bi_len_lst, bi_tuple_lst, bi_tuple_tup, bi_list_lst, bi_list_tup, bi_max, bi_min, mt_append, mt_part, mt_split, mt_splitN, mt_join, sl_tup, sl_lst, seqV, end_raw, Option.bind_some, Option.map_some, chk_nil, List.append_nil, okR_ok, okQ_ok, c_ins, c_nins, Int.cast_ofNat_Int, List.length_cons, List.length_nil, List.cons.injEq, and_self, and_true, true_and, and_false, false_and, Nat.zero_add, not_true_eq_false, not_false_eq_true, Bool.true_and, Bool.and_true, Bool.false_and, Bool.and_false, Bool.true_or, Bool.or_true, Bool.false_or, Bool.or_false, beq_self_eq_true, eq_self, evSs, b_15, noneD, sForm, Nat.reduceBEq, Int.reduceBEq, String.reduceBEq, String.reduceEq, Nat.reduceEqDiff, reduceCtorEq, Int.reduceNeg, Int.reduceLT, Int.reduceLE, Int.reduceEq, Int.reduceAdd, Int.reduceSub, Nat.reduceLT, Nat.reduceLeDiff, Nat.reduceAdd, Nat.reduceSub, Nat.reduceEqDiff]
  · refine ⟨[], ?_⟩
    have ea : actDue h (.tup xs) = noneD sForm := by
      unfold actDue
      split
      · rename_i z; cases z; exact absurd rfl hx
      · rfl
    have e3 : ((xs.length : Nat) : Int) = 3 ↔ False := ⟨fun z => hx (by omega), False.elim⟩
    rw [ea]
    simp (config := {implicitDefEqProofs := false}) only [evSs_nil, nx_nx, nx_rt, evS.eq_1, evS.eq_2, evS.eq_3, evS.eq_4, evS.eq_5, evS.eq_6, evS.eq_7, evS_for, evS.eq_9, evS.eq_10, evS.eq_11, evS.eq_12, evS.eq_13, evS.eq_14, evE, evEs, evO, evC, evI, R.bind_ok, R.bind_exc, R.q_ok, R.q_exc, R.of_some, R.nox_ok, Q.bind_nx, Q.bind_rt, Q.bind_bk, Q.bind_ct, Q.bind_exc, fin_rt, fin_nx, fin_exc, List.getElem?_cons_zero, List.getElem?_cons_succ, List.set_cons_zero, List.set_cons_succ, asgT, asgTs, lstOf, wipeS, srcOf, lstV, if_true, if_false, Bool.false_eq_true, Bool.true_eq_false, Bool.not_true, Bool.not_false, decide_true, decide_false, t_bl, t_int, t_non, t_tup, t_lst, c_lt, c_le, c_gt, c_ge, c_eqi, c_nei, c_eqs, c_nes, c_isN, c_isnN, c_isB, c_isnB, b_add, b_sub, ix_tup, ix_frz, ix_scr, at0, at1, isTys_nil, isTys_cons, ty_int_non, ty_int_bl, ty_int_int, ty_int_str, ty_int_tup, ty_int_lst, ty_int_dic, ty_bool_non, ty_bool_bl, ty_bool_int, ty_bool_str, ty_bool_tup, ty_bool_lst, ty_bool_dic, ty_str_non, ty_str_bl, ty_str_int, ty_str_str, ty_str_tup, ty_str_lst, ty_str_dic, ty_tuple_non, ty_tuple_bl, ty_tuple_int, ty_tuple_str, ty_tuple_tup, ty_tuple_lst, ty_tuple_dic, ty_list_non, ty_list_bl, ty_list_int, ty_list_str, ty_list_tup, ty_list_lst, ty_list_dic, ty_dict_non, ty_dict_bl, ty_dict_int, ty_dict_str, ty_dict_tup, ty_dict_lst, ty_dict_dic, ty_err_exn, ty_own_exn, bi_len_scr, bi_len_tup, bi_len_lst, bi_tuple_lst, bi_tuple_tup, bi_list_lst, bi_list_tup, bi_max, bi_min, mt_append, mt_part, mt_split, mt_splitN, mt_join, sl_tup, sl_lst, seqV, end_raw, Option.bind_some, Option.map_some, chk_nil, List.append_nil, okR_ok, okQ_ok, c_ins, c_nins, Int.cast_ofNat_Int, List.length_cons, List.length_nil, List.cons.injEq, and_self, and_true, true_and, and_false, false_and, Nat.zero_add, not_true_eq_false, not_false_eq_true, Bool.true_and, Bool.and_true, Bool.false_and, Bool.and_false, Bool.true_or, Bool.or_true, Bool.false_or, Bool.or_false, beq_self_eq_true, eq_self, evSs, b_15, e3, noneD, sForm, Nat.reduceBEq, Int.reduceBEq, String.reduceBEq, String.reduceEq, Nat.reduceEqDiff, reduceCtorEq, Int.reduceNeg, Int.reduceLT, Int.reduceLE, Int.reduceEq, Int.reduceAdd, Int.reduceSub, Nat.reduceLT, Nat.reduceLeDiff, Nat.reduceAdd, Nat.reduceSub, Nat.reduceEqDiff]
end KX
namespace KX
open PySem L2.MP
/-- what is due, small enough for repr -/
def dueOk (d : D) : Prop := d = .non ∨ ∃ p q, d = .tup [.str p, q] ∧ okB p = true ∧ p.length ≤ 10 ∧ (q = .non ∨ (∃ i : Int, q = .int i ∧ i.natAbs < 100000) ∨ ∃ i j : Int, q = .tup [.int i, .int j] ∧ i.natAbs < 100000 ∧ j.natAbs < 100000)
theorem due_rg {d : D} (h : dueOk d) : rG 5 d = true ∧ rB 5 d ≤ lim ∧ pl 40 d = true ∧ deep true [] 40 d = some d := by
  rcases h with rfl | ⟨p, q, rfl, h1, h2, rfl | ⟨i, rfl, h3⟩ | ⟨i, j, rfl, h3, h4⟩⟩
  · exact ⟨rfl, by decide, rfl, rfl⟩
  · refine ⟨by simp [rG, h1], ?_, rfl, rfl⟩
    simp only [rB, List.map_cons, List.map_nil, List.sum_cons, List.sum_nil, List.length_cons, List.length_nil, lim]
    omega
  · refine ⟨by simp [rG, h1]; omega, ?_, rfl, rfl⟩
    simp only [rB, List.map_cons, List.map_nil, List.sum_cons, List.sum_nil, List.length_cons, List.length_nil, lim]
    omega
  · refine ⟨by simp [rG, h1]; omega, ?_, rfl, rfl⟩
    simp only [rB, List.map_cons, List.map_nil, List.sum_cons, List.sum_nil, List.length_cons, List.length_nil, lim]
    omega
theorem first_lt : ∀ {ls : List D} {i j : Int}, firstBad i ls = some j → i ≤ j ∧ j < i + ls.length
  | [], i, j, h => by cases h
  | l :: ls, i, j, h => by
    simp only [firstBad] at h
    split at h
    · have := first_lt h
      simp only [List.length_cons]
      omega
    · cases h
      simp only [List.length_cons]
      omega
theorem sec_due {num : Int} (hn : 0 ≤ num ∧ num < 50000) (sec : D) (labs : List D) : dueOk (secDue num sec labs) := by
  have hs : dueOk (secD num) := .inr ⟨_, _, rfl, by decide, by decide, .inr (.inl ⟨num, rfl, by omega⟩)⟩
  unfold secDue
  split
  · split
    · split
      · split
        · rename_i ls h6
          unfold lineDue
          split
          · exact .inl rfl
          · rename_i j hj
            have := first_lt hj
            exact .inr ⟨_, _, rfl, by decide, by decide, .inr (.inr ⟨num, j, rfl, by omega, by omega⟩)⟩
        · exact hs
      · exact hs
    · exact hs
  · exact hs
theorem secs_due : ∀ {secs : List D} {num : Int} {labs : List D}, 0 ≤ num → num + secs.length < 50000 → dueOk (secsDue num secs labs)
  | [], _, _, _, _ => .inl rfl
  | s :: secs, num, labs, h1, h2 => by
    simp only [List.length_cons] at h2
    have hd := sec_due ⟨h1, by omega⟩ s labs
    simp only [secsDue]
    split
    · exact secs_due (by omega) (by omega)
    · exact hd
theorem act_due (h : Hs) (v : D) : dueOk (actDue h v) := by
  have hn : ∀ p, okB p = true → p.length ≤ 10 → dueOk (noneD p) := fun p h1 h2 => .inr ⟨p, .non, rfl, h1, h2, .inl rfl⟩
  unfold actDue
  split
  · split
    · split
      · split
        · split
          · rename_i secs _ h8
            exact secs_due (by omega) (by omega)
          · exact hn _ (by decide) (by decide)
        · exact hn _ (by decide) (by decide)
      · exact hn _ (by decide) (by decide)
    · exact hn _ (by decide) (by decide)
  · exact hn _ (by decide) (by decide)
/-- repr takes it where it stands -/
def Rp (h : Hs) (v : D) : Prop := ∃ v' n, deep true h 40 v = some v' ∧ rG n v' = true ∧ rB n v' ≤ lim
theorem deep_rG {h : Hs} : ∀ {n m : Nat} {d : D}, rG n d = true → n ≤ m → deep true h m d = some d
  | 0, _, _, q, _ => by cases q
  | n + 1, 0, _, _, hm => by omega
  | n + 1, m + 1, d, q, hm => by
    cases d with
    | tup xs =>
      have hx : ∀ x ∈ xs, deep true h m x = some x := fun x hx => deep_rG (List.all_eq_true.mp q x hx) (by omega)
      simp only [deep, mapO_id hx, Option.map_some]
    | lst xs =>
      have hx : ∀ x ∈ xs, deep true h m x = some x := fun x hx => deep_rG (List.all_eq_true.mp q x hx) (by omega)
      simp only [deep, mapO_id hx, Option.map_some]
    | dic ks vs =>
      cases ks with
      | cons => cases q
      | nil =>
        cases vs with
        | cons => cases q
        | nil => rfl
    | _ => first | rfl | (cases q; done)
theorem res_ok {m k : Nat} (hm : 7 ≤ m) {h : Hs} {v : D} (hv : Ok h k v) (hr : Rp h v) : callN gl Fs m 16 [v] h = .ok (actDue h v) h := by
  obtain ⟨n, rfl⟩ : ∃ n, m = n + 1 := ⟨m - 1, by omega⟩
  rw [c_16]
  obtain ⟨v', r, d1, d2, d3⟩ := hr
  have rep : ∀ nd, biD .repr nd [v] h = .ok (.str (rpS v')) h := fun nd => repr_ok d1 d2 d3
  obtain ⟨t, e⟩ := vact (show 6 ≤ n by omega) hv
  rcases act_due h v with q | ⟨p, q, e2, h1, h2, h3⟩
  · rw [q] at e ⊢
    simp (config := {implicitDefEqProofs := false}) only [evSs_nil, nx_nx, nx_rt, evS.eq_1, evS.eq_2, evS.eq_3, evS.eq_4, evS.eq_5, evS.eq_6, evS.eq_7, evS_for, evS.eq_9, evS.eq_10, evS.eq_11, evS.eq_12, evS.eq_13, evS.eq_14, evE, evEs, evO, evC, evI, R.bind_ok, R.bind_exc, R.q_ok, R.q_exc, R.of_some, R.nox_ok, Q.bind_nx, Q.bind_rt, Q.bind_bk, Q.bind_ct, Q.bind_exc, fin_rt, fin_nx, fin_exc, List.getElem?_cons_zero, List.getElem?_cons_succ, List.set_cons_zero, List.set_cons_succ, asgT, asgTs, lstOf, wipeS, srcOf, lstV, if_true, if_false, Bool.false_eq_true, Bool.true_eq_false, Bool.not_true, Bool.not_false, decide_true, decide_false, t_bl, t_int, t_non, t_tup, t_lst, c_lt, c_le, c_gt, c_ge, c_eqi, c_nei, c_eqs, c_nes, c_isN, c_isnN, c_isB, c_isnB, b_add, b_sub, ix_tup, ix_frz, ix_scr, at0, at1, isTys_nil, isTys_cons, ty_int_non, ty_int_bl, ty_int_int, ty_int_str, ty_int_tup, ty_int_lst, ty_int_dic, ty_bool_non, ty_bool_bl, ty_bool_int, ty_bool_str, ty_bool_tup, ty_bool_lst, ty_bool_dic, ty_str_non, ty_str_bl, ty_str_int, ty_str_str, ty_str_tup, ty_str_lst, ty_str_dic, ty_tuple_non, ty_tuple_bl, ty_tuple_int, ty_tuple_str, ty_tuple_tup, ty_tuple_lst, ty_tuple_dic, ty_list_non, ty_list_bl, ty_list_int, ty_list_str, ty_list_tup, ty_list_lst, ty_list_dic, ty_dict_non, ty_dict_bl, ty_dict_int, ty_dict_str, ty_dict_tup, ty_dict_lst, ty_dict_dic, ty_err_exn, ty_own_exn, bi_len_scr, bi_len_tup, bi_len_lst, bi_tuple_lst, bi_tuple_tup, bi_list_lst, bi_list_tup, bi_max, bi_min, mt_append, mt_part, mt_split, mt_splitN, mt_join, sl_tup, sl_lst, seqV, end_raw, Option.bind_some, Option.map_some, chk_nil, List.append_nil, okR_ok, okQ_ok, c_ins, c_nins, Int.cast_ofNat_Int, List.length_cons, List.length_nil, List.cons.injEq, and_self, and_true, true_and, and_false, false_and, Nat.zero_add, not_true_eq_false, not_false_eq_true, Bool.true_and, Bool.and_true, Bool.false_and, Bool.and_false, Bool.true_or, Bool.or_true, Bool.false_or, Bool.or_false, beq_self_eq_true, eq_self, evSs, b_16, rep, e, vEnd, end_pure (show pl 40 .non = true from rfl), Nat.reduceBEq, Int.reduceBEq, String.reduceBEq, String.reduceEq, Nat.reduceEqDiff, reduceCtorEq, Int.reduceNeg, Int.reduceLT, Int.reduceLE, Int.reduceEq, Int.reduceAdd, Int.reduceSub, Nat.reduceLT, Nat.reduceLeDiff, Nat.reduceAdd, Nat.reduceSub, Nat.reduceEqDiff]
  · rw [e2] at e ⊢
    have hp : ∀ x ∈ [D.str p, q], pl 40 x = true := fun x hx => by
      simp only [List.mem_cons, List.not_mem_nil, or_false] at hx
      rcases hx with rfl | rfl
      · rfl
      · rcases h3 with rfl | ⟨i, rfl, _⟩ | ⟨i, j, rfl, _, _⟩ <;> rfl
    have hf : gl.fls[1]? = some [[112, 97, 114, 116], [112, 111, 115, 105, 116, 105, 111, 110]] := rfl
    have l1 : (([[112, 97, 114, 116], [112, 111, 115, 105, 116, 105, 111, 110]] : List (List Nat)).zip [D.str p, q]).lookup [112, 97, 114, 116] = some (D.str p) := rfl
    have l2 : (([[112, 97, 114, 116], [112, 111, 115, 105, 116, 105, 111, 110]] : List (List Nat)).zip [D.str p, q]).lookup [112, 111, 115, 105, 116, 105, 111, 110] = some q := rfl
    have hx : noXs [D.str p, q] = true := by
      rcases h3 with rfl | ⟨i, rfl, _⟩ | ⟨i, j, rfl, _, _⟩ <;> rfl
    simp (config := {implicitDefEqProofs := false}) only [evSs_nil, nx_nx, nx_rt, evS.eq_1, evS.eq_2, evS.eq_3, evS.eq_4, evS.eq_5, evS.eq_6, evS.eq_7, evS_for, evS.eq_9, evS.eq_10, evS.eq_11, evS.eq_12, evS.eq_13, evS.eq_14, evE, evEs, evO, evC, evI, R.bind_ok, R.bind_exc, R.q_ok, R.q_exc, R.of_some, R.nox_ok, Q.bind_nx, Q.bind_rt, Q.bind_bk, Q.bind_ct, Q.bind_exc, fin_rt, fin_nx, fin_exc, List.getElem?_cons_zero, List.getElem?_cons_succ, List.set_cons_zero, List.set_cons_succ, asgT, asgTs, lstOf, wipeS, srcOf, lstV, if_true, if_false, Bool.false_eq_true, Bool.true_eq_false, Bool.not_true, Bool.not_false, decide_true, decide_false, t_bl, t_int, t_non, t_tup, t_lst, c_lt, c_le, c_gt, c_ge, c_eqi, c_nei, c_eqs, c_nes, c_isN, c_isnN, c_isB, c_isnB, b_add, b_sub, ix_tup, ix_frz, ix_scr, at0, at1, isTys_nil, isTys_cons, ty_int_non, ty_int_bl, ty_int_int, ty_int_str, ty_int_tup, ty_int_lst, ty_int_dic, ty_bool_non, ty_bool_bl, ty_bool_int, ty_bool_str, ty_bool_tup, ty_bool_lst, ty_bool_dic, ty_str_non, ty_str_bl, ty_str_int, ty_str_str, ty_str_tup, ty_str_lst, ty_str_dic, ty_tuple_non, ty_tuple_bl, ty_tuple_int, ty_tuple_str, ty_tuple_tup, ty_tuple_lst, ty_tuple_dic, ty_list_non, ty_list_bl, ty_list_int, ty_list_str, ty_list_tup, ty_list_lst, ty_list_dic, ty_dict_non, ty_dict_bl, ty_dict_int, ty_dict_str, ty_dict_tup, ty_dict_lst, ty_dict_dic, ty_err_exn, ty_own_exn, bi_len_scr, bi_len_tup, bi_len_lst, bi_tuple_lst, bi_tuple_tup, bi_list_lst, bi_list_tup, bi_max, bi_min, mt_append, mt_part, mt_split, mt_splitN, mt_join, sl_tup, sl_lst, seqV, end_raw, Option.bind_some, Option.map_some, chk_nil, List.append_nil, okR_ok, okQ_ok, c_ins, c_nins, Int.cast_ofNat_Int, List.length_cons, List.length_nil, List.cons.injEq, and_self, and_true, true_and, and_false, false_and, Nat.zero_add, not_true_eq_false, not_false_eq_true, Bool.true_and, Bool.and_true, Bool.false_and, Bool.and_false, Bool.true_or, Bool.or_true, Bool.false_or, Bool.or_false, beq_self_eq_true, eq_self, evSs, b_16, rep, e, vEnd, end_pureF hp t, exl, evH, evH1, exb_1, List.contains_cons, hf, l1, l2, okSl, okF, noX, hx, Nat.reduceBEq, Int.reduceBEq, String.reduceBEq, String.reduceEq, Nat.reduceEqDiff, reduceCtorEq, Int.reduceNeg, Int.reduceLT, Int.reduceLE, Int.reduceEq, Int.reduceAdd, Int.reduceSub, Nat.reduceLT, Nat.reduceLeDiff, Nat.reduceAdd, Nat.reduceSub, Nat.reduceEqDiff]
theorem forL_cnt {s : Src} {f : D → Sl → Hs → Q} (I : Nat → Sl → Hs → Prop) (N : Nat) (hc : ∀ n sl h, I n sl h → chk s h = true) : ∀ {xs : List D} {n : Nat} {sl : Sl} {h : Hs}, n + xs.length ≤ N →
    (∀ x ∈ xs, ∀ n sl h, n < N → I n sl h → okQ (f x sl h) fun F sl' h' => F = .nx ∧ I (n + 1) sl' h') → I n sl h → okQ (forL s f xs sl h) fun F sl' h' => F = .nx ∧ I (n + xs.length) sl' h'
  | [], n, sl, h, _, _, i => by
    simp only [forL]
    rw [if_pos (hc n sl h i)]
    exact ⟨rfl, i⟩
  | x :: xs, n, sl, h, hN, k, i => by
    simp only [List.length_cons] at hN
    simp only [forL]
    rw [if_pos (hc n sl h i)]
    have q := k x (List.mem_cons_self ..) n sl h (by omega) i
    cases e : f x sl h with
    | ok F sl1 h1 =>
      rw [e] at q
      obtain ⟨rfl, i1⟩ := q
      have := forL_cnt I N hc (xs := xs) (n := n + 1) (by omega) (fun y hy => k y (List.mem_cons_of_mem _ hy)) i1
      have e2 : n + 1 + xs.length = n + (x :: xs).length := by simp only [List.length_cons]; omega
      rw [e2] at this
      exact this
    | exc c fs sl1 h1 => rw [e] at q; exact False.elim q
    | bad => rw [e] at q; exact False.elim q
theorem choose_ref {G : Gl} {Fs : List Fn} {f N i j g : Nat} {xs : List D} {h0 h : Hs} (hN : 2 ≤ N) (hF : Fs[f]? = some (Fchoose g)) (hG : Fs[g]? = some Fdraw) (p : PoolAt i h0 h) (hj : h0[j]? = some (.lst xs)) (hij : j ≠ i) (hx : 0 < xs.length) (hx2 : xs.length < 1073741824) :
    okR (callN G Fs N f [.ref i, .ref j] h) fun v h' => PoolAt i h0 h' ∧ v ∈ xs := by
  obtain ⟨n, rfl⟩ : ∃ n, N = n + 2 := ⟨N - 2, by omega⟩
  rw [callN_eq hF rfl]
  obtain ⟨v, h', e, p', d, rfl, d0, d1⟩ := okR_inv (draw_ok (G := G) (N := n + 1) (by omega) hG p (m := xs.length) (by omega) (by omega))
  obtain ⟨x, hm, ea, _⟩ := at_lt d0 d1
  have g1 : h[j]? = some (.lst xs) := by rw [p.other hij]; exact hj
  have g2 : h'[j]? = some (.lst xs) := by rw [p'.other hij]; exact hj
  refine okR_fin ?_
  simp (config := {implicitDefEqProofs := false}) only [evSs_nil, nx_nx, nx_rt, evS.eq_1, evS.eq_2, evS.eq_3, evS.eq_4, evS.eq_5, evS.eq_6, evS.eq_7, evS_for, evS.eq_9, evS.eq_10, evS.eq_11, evS.eq_12, evS.eq_13, evS.eq_14, evE, evEs, evO, evC, evI, R.bind_ok, R.bind_exc, R.q_ok, R.q_exc, R.of_some, R.nox_ok, Q.bind_nx, Q.bind_rt, Q.bind_bk, Q.bind_ct, Q.bind_exc, fin_rt, fin_nx, fin_exc, List.getElem?_cons_zero, List.getElem?_cons_succ, List.set_cons_zero, List.set_cons_succ, asgT, asgTs, lstOf, wipeS, srcOf, lstV, if_true, if_false, Bool.false_eq_true, Bool.true_eq_false, Bool.not_true, Bool.not_false, decide_true, decide_false, t_bl, t_int, t_non, t_tup, t_lst, c_lt, c_le, c_gt, c_ge, c_eqi, c_nei, c_eqs, c_nes, c_isN, c_isnN, c_isB, c_isnB, b_add, b_sub, ix_tup, ix_frz, ix_scr, at0, at1, isTys_nil, isTys_cons, ty_int_non, ty_int_bl, ty_int_int, ty_int_str, ty_int_tup, ty_int_lst, ty_int_dic, ty_bool_non, ty_bool_bl, ty_bool_int, ty_bool_str, ty_bool_tup, ty_bool_lst, ty_bool_dic, ty_str_non, ty_str_bl, ty_str_int, ty_str_str, ty_str_tup, ty_str_lst, ty_str_dic, ty_tuple_non, ty_tuple_bl, ty_tuple_int, ty_tuple_str, ty_tuple_tup, ty_tuple_lst, ty_tuple_dic, ty_list_non, ty_list_bl, ty_list_int, ty_list_str, ty_list_tup, ty_list_lst, ty_list_dic, ty_dict_non, ty_dict_bl, ty_dict_int, ty_dict_str, ty_dict_tup, ty_dict_lst, ty_dict_dic, ty_err_exn, ty_own_exn, bi_len_scr, bi_len_tup, bi_len_lst, bi_tuple_lst, bi_tuple_tup, bi_list_lst, bi_list_tup, bi_max, bi_min, mt_append, mt_part, mt_split, mt_splitN, mt_join, sl_tup, sl_lst, seqV, end_raw, Option.bind_some, Option.map_some, chk_nil, List.append_nil, okR_ok, okQ_ok, c_ins, c_nins, Int.cast_ofNat_Int, List.length_cons, List.length_nil, List.cons.injEq, and_self, and_true, true_and, and_false, false_and, Nat.zero_add, not_true_eq_false, not_false_eq_true, Bool.true_and, Bool.and_true, Bool.false_and, Bool.and_false, Bool.true_or, Bool.or_true, Bool.false_or, Bool.or_false, beq_self_eq_true, eq_self, evSs, Fchoose, List.map_cons, List.map_nil, List.replicate, List.append_nil, bi_len_ref g1, e, ix_lst g2, ea, Nat.reduceBEq, Int.reduceBEq, String.reduceBEq, String.reduceEq, Nat.reduceEqDiff, reduceCtorEq, Int.reduceNeg, Int.reduceLT, Int.reduceLE, Int.reduceEq, Int.reduceAdd, Int.reduceSub, Nat.reduceLT, Nat.reduceLeDiff, Nat.reduceAdd, Nat.reduceSub, Nat.reduceEqDiff]
  exact ⟨p', hm⟩
/-! ### the drawn act -/
def short (n : Nat) (d : D) : Prop := ∃ s, d = .str s ∧ okB s = true ∧ s.length ≤ n
def secOk (d : D) : Prop := ∃ a ls, d = .tup [a, .lst ls] ∧ short 10 a ∧ (∀ l ∈ ls, short 20 l) ∧ ls.length ≤ 7
def lbs : List D := [.str [49], .str [50], .str [51], .str [107], .str [97, 98, 99, 100, 101, 102, 103, 104], .str [49, 48], .str [49, 49], .str [49, 50], .str [49, 51]]
def lb2 : List D := [.str [], .str [], .str [52]]
def lns : List D := [.str [120], .str [97, 32, 114, 101, 112, 101, 97, 108, 101, 100], .str [105, 110, 32, 97, 32, 97, 99, 116, 32, 114, 101, 112, 101, 97, 108, 101, 100], .str [57, 57, 57, 57]]
theorem lbs_inv {x : D} (h : x ∈ lbs) : ∃ s, x = .str s ∧ okB s = true ∧ s.length ≤ 8 := by
  simp only [lbs, List.mem_cons, List.not_mem_nil, or_false] at h
  rcases h with rfl | rfl | rfl | rfl | rfl | rfl | rfl | rfl | rfl <;> exact ⟨_, rfl, by decide, by decide⟩
theorem lb2_inv {x : D} (h : x ∈ lb2) : ∃ s, x = .str s ∧ okB s = true ∧ s.length ≤ 1 := by
  simp only [lb2, List.mem_cons, List.not_mem_nil, or_false] at h
  rcases h with rfl | rfl | rfl <;> exact ⟨_, rfl, by decide, by decide⟩
theorem lns_inv {x : D} (h : x ∈ lns) : short 20 x := by
  simp only [lns, List.mem_cons, List.not_mem_nil, or_false] at h
  rcases h with rfl | rfl | rfl | rfl <;> exact ⟨_, rfl, by decide, by decide⟩
theorem okB_app {s t : List Nat} (h : okB s = true) (k : okB t = true) : okB (s ++ t) = true := by
  unfold okB at *
  rw [List.all_append, h, k]
  rfl
theorem PoolAt.setO {i j : Nat} {h0 h : Hs} {nd : Nd} (p : PoolAt i h0 h) (n : j ≠ i) : PoolAt i (h0.set j nd) (h.set j nd) := by
  obtain ⟨hi, a, b, h1, h2, rfl⟩ := p
  exact ⟨by rw [List.length_set]; exact hi, a, b, h1, h2, by rw [List.set_comm _ _ (Ne.symm n)]⟩
theorem all_mem {xs ys : List D} {l : List D} (h : All2 (fun _ y => y ∈ l) xs ys) : ∀ y ∈ ys, y ∈ l := fun y hy => by
  obtain ⟨_, _, m⟩ := h.right y hy
  exact m
/-- _law_act -/
theorem act17 {i : Nat} {h0 h : Hs} (p : PoolAt i h0 h) : okR (callN gl Fs 59 17 [.ref i] h) fun v h' => ∃ (secs : List D) (s : List Nat) (d : Int), v = .tup [.str s, .int d, .ref h0.length] ∧ PoolAt i (h0 ++ [.lst secs]) h' ∧ (∀ s ∈ secs, secOk s) ∧ secs.length ≤ 9 ∧ okB s = true ∧ s.length ≤ 4 ∧ 0 ≤ d ∧ d ≤ 9999 := by
  rw [c_17 58]
  refine okR_fin (okQ_cons ?_)
  simp (config := {implicitDefEqProofs := false}) only [evSs_nil, nx_nx, nx_rt, evS.eq_1, evS.eq_2, evS.eq_3, evS.eq_4, evS.eq_5, evS.eq_6, evS.eq_7, evS_for, evS.eq_9, evS.eq_10, evS.eq_11, evS.eq_12, evS.eq_13, evS.eq_14, evE, evEs, evO, evC, evI, R.bind_ok, R.bind_exc, R.q_ok, R.q_exc, R.of_some, R.nox_ok, Q.bind_nx, Q.bind_rt, Q.bind_bk, Q.bind_ct, Q.bind_exc, fin_rt, fin_nx, fin_exc, List.getElem?_cons_zero, List.getElem?_cons_succ, List.set_cons_zero, List.set_cons_succ, asgT, asgTs, lstOf, wipeS, srcOf, lstV, if_true, if_false, Bool.false_eq_true, Bool.true_eq_false, Bool.not_true, Bool.not_false, decide_true, decide_false, t_bl, t_int, t_non, t_tup, t_lst, c_lt, c_le, c_gt, c_ge, c_eqi, c_nei, c_eqs, c_nes, c_isN, c_isnN, c_isB, c_isnB, b_add, b_sub, ix_tup, ix_frz, ix_scr, at0, at1, isTys_nil, isTys_cons, ty_int_non, ty_int_bl, ty_int_int, ty_int_str, ty_int_tup, ty_int_lst, ty_int_dic, ty_bool_non, ty_bool_bl, ty_bool_int, ty_bool_str, ty_bool_tup, ty_bool_lst, ty_bool_dic, ty_str_non, ty_str_bl, ty_str_int, ty_str_str, ty_str_tup, ty_str_lst, ty_str_dic, ty_tuple_non, ty_tuple_bl, ty_tuple_int, ty_tuple_str, ty_tuple_tup, ty_tuple_lst, ty_tuple_dic, ty_list_non, ty_list_bl, ty_list_int, ty_list_str, ty_list_tup, ty_list_lst, ty_list_dic, ty_dict_non, ty_dict_bl, ty_dict_int, ty_dict_str, ty_dict_tup, ty_dict_lst, ty_dict_dic, ty_err_exn, ty_own_exn, bi_len_scr, bi_len_tup, bi_len_lst, bi_tuple_lst, bi_tuple_tup, bi_list_lst, bi_list_tup, bi_max, bi_min, mt_append, mt_part, mt_split, mt_splitN, mt_join, sl_tup, sl_lst, seqV, end_raw, Option.bind_some, Option.map_some, chk_nil, List.append_nil, okR_ok, okQ_ok, c_ins, c_nins, Int.cast_ofNat_Int, List.length_cons, List.length_nil, List.cons.injEq, and_self, and_true, true_and, and_false, false_and, Nat.zero_add, not_true_eq_false, not_false_eq_true, Bool.true_and, Bool.and_true, Bool.false_and, Bool.and_false, Bool.true_or, Bool.or_true, Bool.false_or, Bool.or_false, beq_self_eq_true, eq_self, Nat.reduceBEq, Int.reduceBEq, String.reduceBEq, String.reduceEq, Nat.reduceEqDiff, reduceCtorEq, Int.reduceNeg, Int.reduceLT, Int.reduceLE, Int.reduceEq, Int.reduceAdd, Int.reduceSub, Nat.reduceLT, Nat.reduceLeDiff, Nat.reduceAdd, Nat.reduceSub, Nat.reduceEqDiff]
  have hlen := p.len
  have p1 := p.app (t := [Nd.lst []])
  obtain ⟨_, h2, e2, p2, d1, rfl, d10, d11⟩ := okR_inv (draw_ok (G := gl) (Fs := Fs) (N := 58) (f := 12) (m := 10) (by decide) rfl p1 (by decide) (by decide))
  refine okQ_cons ?_
  simp (config := {implicitDefEqProofs := false}) only [evSs_nil, nx_nx, nx_rt, evS.eq_1, evS.eq_2, evS.eq_3, evS.eq_4, evS.eq_5, evS.eq_6, evS.eq_7, evS_for, evS.eq_9, evS.eq_10, evS.eq_11, evS.eq_12, evS.eq_13, evS.eq_14, evE, evEs, evO, evC, evI, R.bind_ok, R.bind_exc, R.q_ok, R.q_exc, R.of_some, R.nox_ok, Q.bind_nx, Q.bind_rt, Q.bind_bk, Q.bind_ct, Q.bind_exc, fin_rt, fin_nx, fin_exc, List.getElem?_cons_zero, List.getElem?_cons_succ, List.set_cons_zero, List.set_cons_succ, asgT, asgTs, lstOf, wipeS, srcOf, lstV, if_true, if_false, Bool.false_eq_true, Bool.true_eq_false, Bool.not_true, Bool.not_false, decide_true, decide_false, t_bl, t_int, t_non, t_tup, t_lst, c_lt, c_le, c_gt, c_ge, c_eqi, c_nei, c_eqs, c_nes, c_isN, c_isnN, c_isB, c_isnB, b_add, b_sub, ix_tup, ix_frz, ix_scr, at0, at1, isTys_nil, isTys_cons, ty_int_non, ty_int_bl, ty_int_int, ty_int_str, ty_int_tup, ty_int_lst, ty_int_dic, ty_bool_non, ty_bool_bl, ty_bool_int, ty_bool_str, ty_bool_tup, ty_bool_lst, ty_bool_dic, ty_str_non, ty_str_bl, ty_str_int, ty_str_str, ty_str_tup, ty_str_lst, ty_str_dic, ty_tuple_non, ty_tuple_bl, ty_tuple_int, ty_tuple_str, ty_tuple_tup, ty_tuple_lst, ty_tuple_dic, ty_list_non, ty_list_bl, ty_list_int, ty_list_str, ty_list_tup, ty_list_lst, ty_list_dic, ty_dict_non, ty_dict_bl, ty_dict_int, ty_dict_str, ty_dict_tup, ty_dict_lst, ty_dict_dic, ty_err_exn, ty_own_exn, bi_len_scr, bi_len_tup, bi_len_lst, bi_tuple_lst, bi_tuple_tup, bi_list_lst, bi_list_tup, bi_max, bi_min, mt_append, mt_part, mt_split, mt_splitN, mt_join, sl_tup, sl_lst, seqV, end_raw, Option.bind_some, Option.map_some, chk_nil, List.append_nil, okR_ok, okQ_ok, c_ins, c_nins, Int.cast_ofNat_Int, List.length_cons, List.length_nil, List.cons.injEq, and_self, and_true, true_and, and_false, false_and, Nat.zero_add, not_true_eq_false, not_false_eq_true, Bool.true_and, Bool.and_true, Bool.false_and, Bool.and_false, Bool.true_or, Bool.or_true, Bool.false_or, Bool.or_false, beq_self_eq_true, eq_self, e2, show -1000000 ≤ d1 ∧ d1 ≤ 1000000 by omega, Nat.reduceBEq, Int.reduceBEq, String.reduceBEq, String.reduceEq, Nat.reduceEqDiff, reduceCtorEq, Int.reduceNeg, Int.reduceLT, Int.reduceLE, Int.reduceEq, Int.reduceAdd, Int.reduceSub, Nat.reduceLT, Nat.reduceLeDiff, Nat.reduceAdd, Nat.reduceSub, Nat.reduceEqDiff]
  have hi0 : i < h0.length := p.1
  let I : Nat → Sl → Hs → Prop := fun n sl h' => ∃ (secs : List D) (a2 a3 a4 a5 : Option D), sl = [some (.ref i), some (.ref h0.length), a2, a3, a4, a5] ∧ PoolAt i (h0 ++ [.lst secs]) h' ∧ (∀ s ∈ secs, secOk s) ∧ secs.length = n
  rw [hlen]
  refine okQ_mono (forL_cnt I 10 (fun _ _ _ _ => rfl) (n := 0) (by rw [length_range]; omega) ?_ ⟨[], _, _, _, _, rfl, p2, by simp, rfl⟩) ?_
  · rintro x _ n sl h' hcnt ⟨secs, a2, a3, a4, a5, rfl, q, hs, hn⟩
    simp (config := {implicitDefEqProofs := false}) only [evSs_nil, nx_nx, nx_rt, evS.eq_1, evS.eq_2, evS.eq_3, evS.eq_4, evS.eq_5, evS.eq_6, evS.eq_7, evS_for, evS.eq_9, evS.eq_10, evS.eq_11, evS.eq_12, evS.eq_13, evS.eq_14, evE, evEs, evO, evC, evI, R.bind_ok, R.bind_exc, R.q_ok, R.q_exc, R.of_some, R.nox_ok, Q.bind_nx, Q.bind_rt, Q.bind_bk, Q.bind_ct, Q.bind_exc, fin_rt, fin_nx, fin_exc, List.getElem?_cons_zero, List.getElem?_cons_succ, List.set_cons_zero, List.set_cons_succ, asgT, asgTs, lstOf, wipeS, srcOf, lstV, if_true, if_false, Bool.false_eq_true, Bool.true_eq_false, Bool.not_true, Bool.not_false, decide_true, decide_false, t_bl, t_int, t_non, t_tup, t_lst, c_lt, c_le, c_gt, c_ge, c_eqi, c_nei, c_eqs, c_nes, c_isN, c_isnN, c_isB, c_isnB, b_add, b_sub, ix_tup, ix_frz, ix_scr, at0, at1, isTys_nil, isTys_cons, ty_int_non, ty_int_bl, ty_int_int, ty_int_str, ty_int_tup, ty_int_lst, ty_int_dic, ty_bool_non, ty_bool_bl, ty_bool_int, ty_bool_str, ty_bool_tup, ty_bool_lst, ty_bool_dic, ty_str_non, ty_str_bl, ty_str_int, ty_str_str, ty_str_tup, ty_str_lst, ty_str_dic, ty_tuple_non, ty_tuple_bl, ty_tuple_int, ty_tuple_str, ty_tuple_tup, ty_tuple_lst, ty_tuple_dic, ty_list_non, ty_list_bl, ty_list_int, ty_list_str, ty_list_tup, ty_list_lst, ty_list_dic, ty_dict_non, ty_dict_bl, ty_dict_int, ty_dict_str, ty_dict_tup, ty_dict_lst, ty_dict_dic, ty_err_exn, ty_own_exn, bi_len_scr, bi_len_tup, bi_len_lst, bi_tuple_lst, bi_tuple_tup, bi_list_lst, bi_list_tup, bi_max, bi_min, mt_append, mt_part, mt_split, mt_splitN, mt_join, sl_tup, sl_lst, seqV, end_raw, Option.bind_some, Option.map_some, chk_nil, List.append_nil, okR_ok, okQ_ok, c_ins, c_nins, Int.cast_ofNat_Int, List.length_cons, List.length_nil, List.cons.injEq, and_self, and_true, true_and, and_false, false_and, Nat.zero_add, not_true_eq_false, not_false_eq_true, Bool.true_and, Bool.and_true, Bool.false_and, Bool.and_false, Bool.true_or, Bool.or_true, Bool.false_or, Bool.or_false, beq_self_eq_true, eq_self, forF, Nat.reduceBEq, Int.reduceBEq, String.reduceBEq, String.reduceEq, Nat.reduceEqDiff, reduceCtorEq, Int.reduceNeg, Int.reduceLT, Int.reduceLE, Int.reduceEq, Int.reduceAdd, Int.reduceSub, Nat.reduceLT, Nat.reduceLeDiff, Nat.reduceAdd, Nat.reduceSub, Nat.reduceEqDiff]
    obtain ⟨_, h3, e3, p3, m3⟩ := okR_inv (choose_ok (G := gl) (Fs := Fs) (N := 58) (f := 13) (g := 12) (xs := lbs) (by decide) rfl rfl q (by decide) (by decide))
    obtain ⟨s1, rfl, b1, l1⟩ := lbs_inv m3
    simp only [lbs] at e3
    refine okQ_cons ?_
    simp (config := {implicitDefEqProofs := false}) only [evSs_nil, nx_nx, nx_rt, evS.eq_1, evS.eq_2, evS.eq_3, evS.eq_4, evS.eq_5, evS.eq_6, evS.eq_7, evS_for, evS.eq_9, evS.eq_10, evS.eq_11, evS.eq_12, evS.eq_13, evS.eq_14, evE, evEs, evO, evC, evI, R.bind_ok, R.bind_exc, R.q_ok, R.q_exc, R.of_some, R.nox_ok, Q.bind_nx, Q.bind_rt, Q.bind_bk, Q.bind_ct, Q.bind_exc, fin_rt, fin_nx, fin_exc, List.getElem?_cons_zero, List.getElem?_cons_succ, List.set_cons_zero, List.set_cons_succ, asgT, asgTs, lstOf, wipeS, srcOf, lstV, if_true, if_false, Bool.false_eq_true, Bool.true_eq_false, Bool.not_true, Bool.not_false, decide_true, decide_false, t_bl, t_int, t_non, t_tup, t_lst, c_lt, c_le, c_gt, c_ge, c_eqi, c_nei, c_eqs, c_nes, c_isN, c_isnN, c_isB, c_isnB, b_add, b_sub, ix_tup, ix_frz, ix_scr, at0, at1, isTys_nil, isTys_cons, ty_int_non, ty_int_bl, ty_int_int, ty_int_str, ty_int_tup, ty_int_lst, ty_int_dic, ty_bool_non, ty_bool_bl, ty_bool_int, ty_bool_str, ty_bool_tup, ty_bool_lst, ty_bool_dic, ty_str_non, ty_str_bl, ty_str_int, ty_str_str, ty_str_tup, ty_str_lst, ty_str_dic, ty_tuple_non, ty_tuple_bl, ty_tuple_int, ty_tuple_str, ty_tuple_tup, ty_tuple_lst, ty_tuple_dic, ty_list_non, ty_list_bl, ty_list_int, ty_list_str, ty_list_tup, ty_list_lst, ty_list_dic, ty_dict_non, ty_dict_bl, ty_dict_int, ty_dict_str, ty_dict_tup, ty_dict_lst, ty_dict_dic, ty_err_exn, ty_own_exn, bi_len_scr, bi_len_tup, bi_len_lst, bi_tuple_lst, bi_tuple_tup, bi_list_lst, bi_list_tup, bi_max, bi_min, mt_append, mt_part, mt_split, mt_splitN, mt_join, sl_tup, sl_lst, seqV, end_raw, Option.bind_some, Option.map_some, chk_nil, List.append_nil, okR_ok, okQ_ok, c_ins, c_nins, Int.cast_ofNat_Int, List.length_cons, List.length_nil, List.cons.injEq, and_self, and_true, true_and, and_false, false_and, Nat.zero_add, not_true_eq_false, not_false_eq_true, Bool.true_and, Bool.and_true, Bool.false_and, Bool.and_false, Bool.true_or, Bool.or_true, Bool.false_or, Bool.or_false, beq_self_eq_true, eq_self, e3, Nat.reduceBEq, Int.reduceBEq, String.reduceBEq, String.reduceEq, Nat.reduceEqDiff, reduceCtorEq, Int.reduceNeg, Int.reduceLT, Int.reduceLE, Int.reduceEq, Int.reduceAdd, Int.reduceSub, Nat.reduceLT, Nat.reduceLeDiff, Nat.reduceAdd, Nat.reduceSub, Nat.reduceEqDiff]
    obtain ⟨_, h4, e4, p4, m4⟩ := okR_inv (choose_ok (G := gl) (Fs := Fs) (N := 58) (f := 13) (g := 12) (xs := lb2) (by decide) rfl rfl p3 (by decide) (by decide))
    obtain ⟨s2, rfl, b2, l2⟩ := lb2_inv m4
    simp only [lb2] at e4
    refine okQ_cons ?_
    simp (config := {implicitDefEqProofs := false}) only [evSs_nil, nx_nx, nx_rt, evS.eq_1, evS.eq_2, evS.eq_3, evS.eq_4, evS.eq_5, evS.eq_6, evS.eq_7, evS_for, evS.eq_9, evS.eq_10, evS.eq_11, evS.eq_12, evS.eq_13, evS.eq_14, evE, evEs, evO, evC, evI, R.bind_ok, R.bind_exc, R.q_ok, R.q_exc, R.of_some, R.nox_ok, Q.bind_nx, Q.bind_rt, Q.bind_bk, Q.bind_ct, Q.bind_exc, fin_rt, fin_nx, fin_exc, List.getElem?_cons_zero, List.getElem?_cons_succ, List.set_cons_zero, List.set_cons_succ, asgT, asgTs, lstOf, wipeS, srcOf, lstV, if_true, if_false, Bool.false_eq_true, Bool.true_eq_false, Bool.not_true, Bool.not_false, decide_true, decide_false, t_bl, t_int, t_non, t_tup, t_lst, c_lt, c_le, c_gt, c_ge, c_eqi, c_nei, c_eqs, c_nes, c_isN, c_isnN, c_isB, c_isnB, b_add, b_sub, ix_tup, ix_frz, ix_scr, at0, at1, isTys_nil, isTys_cons, ty_int_non, ty_int_bl, ty_int_int, ty_int_str, ty_int_tup, ty_int_lst, ty_int_dic, ty_bool_non, ty_bool_bl, ty_bool_int, ty_bool_str, ty_bool_tup, ty_bool_lst, ty_bool_dic, ty_str_non, ty_str_bl, ty_str_int, ty_str_str, ty_str_tup, ty_str_lst, ty_str_dic, ty_tuple_non, ty_tuple_bl, ty_tuple_int, ty_tuple_str, ty_tuple_tup, ty_tuple_lst, ty_tuple_dic, ty_list_non, ty_list_bl, ty_list_int, ty_list_str, ty_list_tup, ty_list_lst, ty_list_dic, ty_dict_non, ty_dict_bl, ty_dict_int, ty_dict_str, ty_dict_tup, ty_dict_lst, ty_dict_dic, ty_err_exn, ty_own_exn, bi_len_scr, bi_len_tup, bi_len_lst, bi_tuple_lst, bi_tuple_tup, bi_list_lst, bi_list_tup, bi_max, bi_min, mt_append, mt_part, mt_split, mt_splitN, mt_join, sl_tup, sl_lst, seqV, end_raw, Option.bind_some, Option.map_some, chk_nil, List.append_nil, okR_ok, okQ_ok, c_ins, c_nins, Int.cast_ofNat_Int, List.length_cons, List.length_nil, List.cons.injEq, and_self, and_true, true_and, and_false, false_and, Nat.zero_add, not_true_eq_false, not_false_eq_true, Bool.true_and, Bool.and_true, Bool.false_and, Bool.and_false, Bool.true_or, Bool.or_true, Bool.false_or, Bool.or_false, beq_self_eq_true, eq_self, e4, b_adds (show s1.length + s2.length ≤ lim by unfold lim; omega), Nat.reduceBEq, Int.reduceBEq, String.reduceBEq, String.reduceEq, Nat.reduceEqDiff, reduceCtorEq, Int.reduceNeg, Int.reduceLT, Int.reduceLE, Int.reduceEq, Int.reduceAdd, Int.reduceSub, Nat.reduceLT, Nat.reduceLeDiff, Nat.reduceAdd, Nat.reduceSub, Nat.reduceEqDiff]
    obtain ⟨_, h5, e5, p5, d2, rfl, d20, d21⟩ := okR_inv (draw_ok (G := gl) (Fs := Fs) (N := 58) (f := 12) (m := 8) (by decide) rfl p4 (by decide) (by decide))
    refine okQ_cons ?_
    simp (config := {implicitDefEqProofs := false}) only [evSs_nil, nx_nx, nx_rt, evS.eq_1, evS.eq_2, evS.eq_3, evS.eq_4, evS.eq_5, evS.eq_6, evS.eq_7, evS_for, evS.eq_9, evS.eq_10, evS.eq_11, evS.eq_12, evS.eq_13, evS.eq_14, evE, evEs, evO, evC, evI, R.bind_ok, R.bind_exc, R.q_ok, R.q_exc, R.of_some, R.nox_ok, Q.bind_nx, Q.bind_rt, Q.bind_bk, Q.bind_ct, Q.bind_exc, fin_rt, fin_nx, fin_exc, List.getElem?_cons_zero, List.getElem?_cons_succ, List.set_cons_zero, List.set_cons_succ, asgT, asgTs, lstOf, wipeS, srcOf, lstV, if_true, if_false, Bool.false_eq_true, Bool.true_eq_false, Bool.not_true, Bool.not_false, decide_true, decide_false, t_bl, t_int, t_non, t_tup, t_lst, c_lt, c_le, c_gt, c_ge, c_eqi, c_nei, c_eqs, c_nes, c_isN, c_isnN, c_isB, c_isnB, b_add, b_sub, ix_tup, ix_frz, ix_scr, at0, at1, isTys_nil, isTys_cons, ty_int_non, ty_int_bl, ty_int_int, ty_int_str, ty_int_tup, ty_int_lst, ty_int_dic, ty_bool_non, ty_bool_bl, ty_bool_int, ty_bool_str, ty_bool_tup, ty_bool_lst, ty_bool_dic, ty_str_non, ty_str_bl, ty_str_int, ty_str_str, ty_str_tup, ty_str_lst, ty_str_dic, ty_tuple_non, ty_tuple_bl, ty_tuple_int, ty_tuple_str, ty_tuple_tup, ty_tuple_lst, ty_tuple_dic, ty_list_non, ty_list_bl, ty_list_int, ty_list_str, ty_list_tup, ty_list_lst, ty_list_dic, ty_dict_non, ty_dict_bl, ty_dict_int, ty_dict_str, ty_dict_tup, ty_dict_lst, ty_dict_dic, ty_err_exn, ty_own_exn, bi_len_scr, bi_len_tup, bi_len_lst, bi_tuple_lst, bi_tuple_tup, bi_list_lst, bi_list_tup, bi_max, bi_min, mt_append, mt_part, mt_split, mt_splitN, mt_join, sl_tup, sl_lst, seqV, end_raw, Option.bind_some, Option.map_some, chk_nil, List.append_nil, okR_ok, okQ_ok, c_ins, c_nins, Int.cast_ofNat_Int, List.length_cons, List.length_nil, List.cons.injEq, and_self, and_true, true_and, and_false, false_and, Nat.zero_add, not_true_eq_false, not_false_eq_true, Bool.true_and, Bool.and_true, Bool.false_and, Bool.and_false, Bool.true_or, Bool.or_true, Bool.false_or, Bool.or_false, beq_self_eq_true, eq_self, e5, length_range, show -1000000 ≤ d2 ∧ d2 ≤ 1000000 by omega, show (d2 - 0).toNat < lim by unfold lim; omega, Nat.reduceBEq, Int.reduceBEq, String.reduceBEq, String.reduceEq, Nat.reduceEqDiff, reduceCtorEq, Int.reduceNeg, Int.reduceLT, Int.reduceLE, Int.reduceEq, Int.reduceAdd, Int.reduceSub, Nat.reduceLT, Nat.reduceLeDiff, Nat.reduceAdd, Nat.reduceSub, Nat.reduceEqDiff]
    repeat (first | refine okQ_bind ?_ | refine okR_q ?_ | refine okR_bind ?_ | refine okR_nox ?_)
    refine okR_mono (mapR_one (PoolAt i (h0 ++ [.lst secs])) (fun _ y => y ∈ lns) (fun _ _ => rfl) ?_ p5) ?_
    · intro x _ h6 p6
      obtain ⟨_, h7, e7, p7, m7⟩ := okR_inv (choose_ok (G := gl) (Fs := Fs) (N := 58) (f := 13) (g := 12) (xs := lns) (by decide) rfl rfl p6 (by decide) (by decide))
      simp only [lns] at e7
      simp (config := {implicitDefEqProofs := false}) only [evSs_nil, nx_nx, nx_rt, evS.eq_1, evS.eq_2, evS.eq_3, evS.eq_4, evS.eq_5, evS.eq_6, evS.eq_7, evS_for, evS.eq_9, evS.eq_10, evS.eq_11, evS.eq_12, evS.eq_13, evS.eq_14, evE, evEs, evO, evC, evI, R.bind_ok, R.bind_exc, R.q_ok, R.q_exc, R.of_some, R.nox_ok, Q.bind_nx, Q.bind_rt, Q.bind_bk, Q.bind_ct, Q.bind_exc, fin_rt, fin_nx, fin_exc, List.getElem?_cons_zero, List.getElem?_cons_succ, List.set_cons_zero, List.set_cons_succ, asgT, asgTs, lstOf, wipeS, srcOf, lstV, if_true, if_false, Bool.false_eq_true, Bool.true_eq_false, Bool.not_true, Bool.not_false, decide_true, decide_false, t_bl, t_int, t_non, t_tup, t_lst, c_lt, c_le, c_gt, c_ge, c_eqi, c_nei, c_eqs, c_nes, c_isN, c_isnN, c_isB, c_isnB, b_add, b_sub, ix_tup, ix_frz, ix_scr, at0, at1, isTys_nil, isTys_cons, ty_int_non, ty_int_bl, ty_int_int, ty_int_str, ty_int_tup, ty_int_lst, ty_int_dic, ty_bool_non, ty_bool_bl, ty_bool_int, ty_bool_str, ty_bool_tup, ty_bool_lst, ty_bool_dic, ty_str_non, ty_str_bl, ty_str_int, ty_str_str, ty_str_tup, ty_str_lst, ty_str_dic, ty_tuple_non, ty_tuple_bl, ty_tuple_int, ty_tuple_str, ty_tuple_tup, ty_tuple_lst, ty_tuple_dic, ty_list_non, ty_list_bl, ty_list_int, ty_list_str, ty_list_tup, ty_list_lst, ty_list_dic, ty_dict_non, ty_dict_bl, ty_dict_int, ty_dict_str, ty_dict_tup, ty_dict_lst, ty_dict_dic, ty_err_exn, ty_own_exn, bi_len_scr, bi_len_tup, bi_len_lst, bi_tuple_lst, bi_tuple_tup, bi_list_lst, bi_list_tup, bi_max, bi_min, mt_append, mt_part, mt_split, mt_splitN, mt_join, sl_tup, sl_lst, seqV, end_raw, Option.bind_some, Option.map_some, chk_nil, List.append_nil, okR_ok, okQ_ok, c_ins, c_nins, Int.cast_ofNat_Int, List.length_cons, List.length_nil, List.cons.injEq, and_self, and_true, true_and, and_false, false_and, Nat.zero_add, not_true_eq_false, not_false_eq_true, Bool.true_and, Bool.and_true, Bool.false_and, Bool.and_false, Bool.true_or, Bool.or_true, Bool.false_or, Bool.or_false, beq_self_eq_true, eq_self, e7, Nat.reduceBEq, Int.reduceBEq, String.reduceBEq, String.reduceEq, Nat.reduceEqDiff, reduceCtorEq, Int.reduceNeg, Int.reduceLT, Int.reduceLE, Int.reduceEq, Int.reduceAdd, Int.reduceSub, Nat.reduceLT, Nat.reduceLeDiff, Nat.reduceAdd, Nat.reduceSub, Nat.reduceEqDiff]
      exact ⟨p7, _, rfl, m7⟩
    rintro ys h6 ⟨p6, a6⟩
    have hyl : ys.length ≤ 7 := by rw [← a6.length, length_range]; omega
    simp (config := {implicitDefEqProofs := false}) only [evSs_nil, nx_nx, nx_rt, evS.eq_1, evS.eq_2, evS.eq_3, evS.eq_4, evS.eq_5, evS.eq_6, evS.eq_7, evS_for, evS.eq_9, evS.eq_10, evS.eq_11, evS.eq_12, evS.eq_13, evS.eq_14, evE, evEs, evO, evC, evI, R.bind_ok, R.bind_exc, R.q_ok, R.q_exc, R.of_some, R.nox_ok, Q.bind_nx, Q.bind_rt, Q.bind_bk, Q.bind_ct, Q.bind_exc, fin_rt, fin_nx, fin_exc, List.getElem?_cons_zero, List.getElem?_cons_succ, List.set_cons_zero, List.set_cons_succ, asgT, asgTs, lstOf, wipeS, srcOf, lstV, if_true, if_false, Bool.false_eq_true, Bool.true_eq_false, Bool.not_true, Bool.not_false, decide_true, decide_false, t_bl, t_int, t_non, t_tup, t_lst, c_lt, c_le, c_gt, c_ge, c_eqi, c_nei, c_eqs, c_nes, c_isN, c_isnN, c_isB, c_isnB, b_add, b_sub, ix_tup, ix_frz, ix_scr, at0, at1, isTys_nil, isTys_cons, ty_int_non, ty_int_bl, ty_int_int, ty_int_str, ty_int_tup, ty_int_lst, ty_int_dic, ty_bool_non, ty_bool_bl, ty_bool_int, ty_bool_str, ty_bool_tup, ty_bool_lst, ty_bool_dic, ty_str_non, ty_str_bl, ty_str_int, ty_str_str, ty_str_tup, ty_str_lst, ty_str_dic, ty_tuple_non, ty_tuple_bl, ty_tuple_int, ty_tuple_str, ty_tuple_tup, ty_tuple_lst, ty_tuple_dic, ty_list_non, ty_list_bl, ty_list_int, ty_list_str, ty_list_tup, ty_list_lst, ty_list_dic, ty_dict_non, ty_dict_bl, ty_dict_int, ty_dict_str, ty_dict_tup, ty_dict_lst, ty_dict_dic, ty_err_exn, ty_own_exn, bi_len_scr, bi_len_tup, bi_len_lst, bi_tuple_lst, bi_tuple_tup, bi_list_lst, bi_list_tup, bi_max, bi_min, mt_append, mt_part, mt_split, mt_splitN, mt_join, sl_tup, sl_lst, seqV, end_raw, Option.bind_some, Option.map_some, chk_nil, List.append_nil, okR_ok, okQ_ok, c_ins, c_nins, Int.cast_ofNat_Int, List.length_cons, List.length_nil, List.cons.injEq, and_self, and_true, true_and, and_false, false_and, Nat.zero_add, not_true_eq_false, not_false_eq_true, Bool.true_and, Bool.and_true, Bool.false_and, Bool.and_false, Bool.true_or, Bool.or_true, Bool.false_or, Bool.or_false, beq_self_eq_true, eq_self, Nat.reduceBEq, Int.reduceBEq, String.reduceBEq, String.reduceEq, Nat.reduceEqDiff, reduceCtorEq, Int.reduceNeg, Int.reduceLT, Int.reduceLE, Int.reduceEq, Int.reduceAdd, Int.reduceSub, Nat.reduceLT, Nat.reduceLeDiff, Nat.reduceAdd, Nat.reduceSub, Nat.reduceEqDiff]
    have hne : h0.length ≠ i := by omega
    have g6 : h6[h0.length]? = some (.lst secs) := by rw [p6.other hne]; simp
    have p7 := PoolAt.setO (p := p6) (nd := .lst (secs ++ [.tup [.str (s1 ++ s2), .lst ys]])) hne
    have e7 : (h0 ++ [Nd.lst secs]).set h0.length (.lst (secs ++ [.tup [.str (s1 ++ s2), .lst ys]])) = h0 ++ [.lst (secs ++ [.tup [.str (s1 ++ s2), .lst ys]])] := by simp
    rw [e7] at p7
    refine okQ_cons ?_
    have hsl : secs.length < lim := by
      have := hcnt
      unfold lim; omega
    simp (config := {implicitDefEqProofs := false}) only [evSs_nil, nx_nx, nx_rt, evS.eq_1, evS.eq_2, evS.eq_3, evS.eq_4, evS.eq_5, evS.eq_6, evS.eq_7, evS_for, evS.eq_9, evS.eq_10, evS.eq_11, evS.eq_12, evS.eq_13, evS.eq_14, evE, evEs, evO, evC, evI, R.bind_ok, R.bind_exc, R.q_ok, R.q_exc, R.of_some, R.nox_ok, Q.bind_nx, Q.bind_rt, Q.bind_bk, Q.bind_ct, Q.bind_exc, fin_rt, fin_nx, fin_exc, List.getElem?_cons_zero, List.getElem?_cons_succ, List.set_cons_zero, List.set_cons_succ, asgT, asgTs, lstOf, wipeS, srcOf, lstV, if_true, if_false, Bool.false_eq_true, Bool.true_eq_false, Bool.not_true, Bool.not_false, decide_true, decide_false, t_bl, t_int, t_non, t_tup, t_lst, c_lt, c_le, c_gt, c_ge, c_eqi, c_nei, c_eqs, c_nes, c_isN, c_isnN, c_isB, c_isnB, b_add, b_sub, ix_tup, ix_frz, ix_scr, at0, at1, isTys_nil, isTys_cons, ty_int_non, ty_int_bl, ty_int_int, ty_int_str, ty_int_tup, ty_int_lst, ty_int_dic, ty_bool_non, ty_bool_bl, ty_bool_int, ty_bool_str, ty_bool_tup, ty_bool_lst, ty_bool_dic, ty_str_non, ty_str_bl, ty_str_int, ty_str_str, ty_str_tup, ty_str_lst, ty_str_dic, ty_tuple_non, ty_tuple_bl, ty_tuple_int, ty_tuple_str, ty_tuple_tup, ty_tuple_lst, ty_tuple_dic, ty_list_non, ty_list_bl, ty_list_int, ty_list_str, ty_list_tup, ty_list_lst, ty_list_dic, ty_dict_non, ty_dict_bl, ty_dict_int, ty_dict_str, ty_dict_tup, ty_dict_lst, ty_dict_dic, ty_err_exn, ty_own_exn, bi_len_scr, bi_len_tup, bi_len_lst, bi_tuple_lst, bi_tuple_tup, bi_list_lst, bi_list_tup, bi_max, bi_min, mt_append, mt_part, mt_split, mt_splitN, mt_join, sl_tup, sl_lst, seqV, end_raw, Option.bind_some, Option.map_some, chk_nil, List.append_nil, okR_ok, okQ_ok, c_ins, c_nins, Int.cast_ofNat_Int, List.length_cons, List.length_nil, List.cons.injEq, and_self, and_true, true_and, and_false, false_and, Nat.zero_add, not_true_eq_false, not_false_eq_true, Bool.true_and, Bool.and_true, Bool.false_and, Bool.and_false, Bool.true_or, Bool.or_true, Bool.false_or, Bool.or_false, beq_self_eq_true, eq_self, m_append g6 hsl, Nat.reduceBEq, Int.reduceBEq, String.reduceBEq, String.reduceEq, Nat.reduceEqDiff, reduceCtorEq, Int.reduceNeg, Int.reduceLT, Int.reduceLE, Int.reduceEq, Int.reduceAdd, Int.reduceSub, Nat.reduceLT, Nat.reduceLeDiff, Nat.reduceAdd, Nat.reduceSub, Nat.reduceEqDiff]
    refine ⟨_, _, _, _, _, rfl, p7, fun s hs' => ?_, by simp [hn]⟩
    rcases List.mem_append.mp hs' with hs' | hs'
    · exact hs s hs'
    · rw [List.mem_singleton.mp hs']
      exact ⟨_, _, rfl, ⟨_, rfl, okB_app b1 b2, by simp; omega⟩, fun l hl => lns_inv (all_mem a6 l hl), hyl⟩
  · rintro F sl h' ⟨rfl, secs, a2, a3, a4, a5, rfl, q, hs, hn⟩
    rw [length_range] at hn
    obtain ⟨v3, h3, e3, p3, m3⟩ := okR_inv (choose_ok (G := gl) (Fs := Fs) (N := 58) (f := 13) (g := 12) (xs := [.str [97], .str [116, 97, 120, 57]]) (by decide) rfl rfl q (by decide) (by decide))
    obtain ⟨v4, h4, e4, p4, m4⟩ := okR_inv (choose_ok (G := gl) (Fs := Fs) (N := 58) (f := 13) (g := 12) (xs := [.int 0, .int 9999, .int 7]) (by decide) rfl rfl p3 (by decide) (by decide))
    obtain ⟨s, rfl, hs1, hs2⟩ : ∃ s, v3 = D.str s ∧ okB s = true ∧ s.length ≤ 4 := by
      simp only [List.mem_cons, List.not_mem_nil, or_false] at m3
      rcases m3 with rfl | rfl <;> exact ⟨_, rfl, by decide, by decide⟩
    obtain ⟨d, rfl, hd1, hd2⟩ : ∃ d, v4 = D.int d ∧ 0 ≤ d ∧ d ≤ 9999 := by
      simp only [List.mem_cons, List.not_mem_nil, or_false] at m4
      rcases m4 with rfl | rfl | rfl <;> exact ⟨_, rfl, by decide, by decide⟩
    simp (config := {implicitDefEqProofs := false}) only [evSs_nil, nx_nx, nx_rt, evS.eq_1, evS.eq_2, evS.eq_3, evS.eq_4, evS.eq_5, evS.eq_6, evS.eq_7, evS_for, evS.eq_9, evS.eq_10, evS.eq_11, evS.eq_12, evS.eq_13, evS.eq_14, evE, evEs, evO, evC, evI, R.bind_ok, R.bind_exc, R.q_ok, R.q_exc, R.of_some, R.nox_ok, Q.bind_nx, Q.bind_rt, Q.bind_bk, Q.bind_ct, Q.bind_exc, fin_rt, fin_nx, fin_exc, List.getElem?_cons_zero, List.getElem?_cons_succ, List.set_cons_zero, List.set_cons_succ, asgT, asgTs, lstOf, wipeS, srcOf, lstV, if_true, if_false, Bool.false_eq_true, Bool.true_eq_false, Bool.not_true, Bool.not_false, decide_true, decide_false, t_bl, t_int, t_non, t_tup, t_lst, c_lt, c_le, c_gt, c_ge, c_eqi, c_nei, c_eqs, c_nes, c_isN, c_isnN, c_isB, c_isnB, b_add, b_sub, ix_tup, ix_frz, ix_scr, at0, at1, isTys_nil, isTys_cons, ty_int_non, ty_int_bl, ty_int_int, ty_int_str, ty_int_tup, ty_int_lst, ty_int_dic, ty_bool_non, ty_bool_bl, ty_bool_int, ty_bool_str, ty_bool_tup, ty_bool_lst, ty_bool_dic, ty_str_non, ty_str_bl, ty_str_int, ty_str_str, ty_str_tup, ty_str_lst, ty_str_dic, ty_tuple_non, ty_tuple_bl, ty_tuple_int, ty_tuple_str, ty_tuple_tup, ty_tuple_lst, ty_tuple_dic, ty_list_non, ty_list_bl, ty_list_int, ty_list_str, ty_list_tup, ty_list_lst, ty_list_dic, ty_dict_non, ty_dict_bl, ty_dict_int, ty_dict_str, ty_dict_tup, ty_dict_lst, ty_dict_dic, ty_err_exn, ty_own_exn, bi_len_scr, bi_len_tup, bi_len_lst, bi_tuple_lst, bi_tuple_tup, bi_list_lst, bi_list_tup, bi_max, bi_min, mt_append, mt_part, mt_split, mt_splitN, mt_join, sl_tup, sl_lst, seqV, end_raw, Option.bind_some, Option.map_some, chk_nil, List.append_nil, okR_ok, okQ_ok, c_ins, c_nins, Int.cast_ofNat_Int, List.length_cons, List.length_nil, List.cons.injEq, and_self, and_true, true_and, and_false, false_and, Nat.zero_add, not_true_eq_false, not_false_eq_true, Bool.true_and, Bool.and_true, Bool.false_and, Bool.and_false, Bool.true_or, Bool.or_true, Bool.false_or, Bool.or_false, beq_self_eq_true, eq_self, Nat.reduceBEq, Int.reduceBEq, String.reduceBEq, String.reduceEq, Nat.reduceEqDiff, reduceCtorEq, Int.reduceNeg, Int.reduceLT, Int.reduceLE, Int.reduceEq, Int.reduceAdd, Int.reduceSub, Nat.reduceLT, Nat.reduceLeDiff, Nat.reduceAdd, Nat.reduceSub, Nat.reduceEqDiff]
    refine okQ_cons ?_
    simp (config := {implicitDefEqProofs := false}) only [evSs_nil, nx_nx, nx_rt, evS.eq_1, evS.eq_2, evS.eq_3, evS.eq_4, evS.eq_5, evS.eq_6, evS.eq_7, evS_for, evS.eq_9, evS.eq_10, evS.eq_11, evS.eq_12, evS.eq_13, evS.eq_14, evE, evEs, evO, evC, evI, R.bind_ok, R.bind_exc, R.q_ok, R.q_exc, R.of_some, R.nox_ok, Q.bind_nx, Q.bind_rt, Q.bind_bk, Q.bind_ct, Q.bind_exc, fin_rt, fin_nx, fin_exc, List.getElem?_cons_zero, List.getElem?_cons_succ, List.set_cons_zero, List.set_cons_succ, asgT, asgTs, lstOf, wipeS, srcOf, lstV, if_true, if_false, Bool.false_eq_true, Bool.true_eq_false, Bool.not_true, Bool.not_false, decide_true, decide_false, t_bl, t_int, t_non, t_tup, t_lst, c_lt, c_le, c_gt, c_ge, c_eqi, c_nei, c_eqs, c_nes, c_isN, c_isnN, c_isB, c_isnB, b_add, b_sub, ix_tup, ix_frz, ix_scr, at0, at1, isTys_nil, isTys_cons, ty_int_non, ty_int_bl, ty_int_int, ty_int_str, ty_int_tup, ty_int_lst, ty_int_dic, ty_bool_non, ty_bool_bl, ty_bool_int, ty_bool_str, ty_bool_tup, ty_bool_lst, ty_bool_dic, ty_str_non, ty_str_bl, ty_str_int, ty_str_str, ty_str_tup, ty_str_lst, ty_str_dic, ty_tuple_non, ty_tuple_bl, ty_tuple_int, ty_tuple_str, ty_tuple_tup, ty_tuple_lst, ty_tuple_dic, ty_list_non, ty_list_bl, ty_list_int, ty_list_str, ty_list_tup, ty_list_lst, ty_list_dic, ty_dict_non, ty_dict_bl, ty_dict_int, ty_dict_str, ty_dict_tup, ty_dict_lst, ty_dict_dic, ty_err_exn, ty_own_exn, bi_len_scr, bi_len_tup, bi_len_lst, bi_tuple_lst, bi_tuple_tup, bi_list_lst, bi_list_tup, bi_max, bi_min, mt_append, mt_part, mt_split, mt_splitN, mt_join, sl_tup, sl_lst, seqV, end_raw, Option.bind_some, Option.map_some, chk_nil, List.append_nil, okR_ok, okQ_ok, c_ins, c_nins, Int.cast_ofNat_Int, List.length_cons, List.length_nil, List.cons.injEq, and_self, and_true, true_and, and_false, false_and, Nat.zero_add, not_true_eq_false, not_false_eq_true, Bool.true_and, Bool.and_true, Bool.false_and, Bool.and_false, Bool.true_or, Bool.or_true, Bool.false_or, Bool.or_false, beq_self_eq_true, eq_self, e3, e4, Nat.reduceBEq, Int.reduceBEq, String.reduceBEq, String.reduceEq, Nat.reduceEqDiff, reduceCtorEq, Int.reduceNeg, Int.reduceLT, Int.reduceLE, Int.reduceEq, Int.reduceAdd, Int.reduceSub, Nat.reduceLT, Nat.reduceLeDiff, Nat.reduceAdd, Nat.reduceSub, Nat.reduceEqDiff]
    exact ⟨secs, s, d, rfl, p4, hs, by omega, hs1, hs2, hd1, hd2⟩
end KX
namespace KX
open PySem L2.MP
theorem rG_up : ∀ {n : Nat} {d : D}, rG n d = true → rG (n + 1) d = true ∧ rB (n + 1) d = rB n d
  | 0, _, q => by cases q
  | n + 1, d, q => by
    cases d with
    | tup xs =>
      have hx : ∀ x ∈ xs, rG (n + 1) x = true ∧ rB (n + 1) x = rB n x := fun x hx => rG_up (List.all_eq_true.mp q x hx)
      refine ⟨List.all_eq_true.mpr fun x h => (hx x h).1, ?_⟩
      have e : xs.map (rB (n + 1)) = xs.map (rB n) := List.map_congr_left fun x h => (hx x h).2
      simp only [rB]
      show (xs.map (rB (n + 1))).sum + _ + 3 = _
      rw [e]
    | lst xs =>
      have hx : ∀ x ∈ xs, rG (n + 1) x = true ∧ rB (n + 1) x = rB n x := fun x hx => rG_up (List.all_eq_true.mp q x hx)
      refine ⟨List.all_eq_true.mpr fun x h => (hx x h).1, ?_⟩
      have e : xs.map (rB (n + 1)) = xs.map (rB n) := List.map_congr_left fun x h => (hx x h).2
      simp only [rB]
      show (xs.map (rB (n + 1))).sum + _ + 3 = _
      rw [e]
    | dic ks vs =>
      cases ks with
      | cons => cases q
      | nil =>
        cases vs with
        | cons => cases q
        | nil => exact ⟨rfl, rfl⟩
    | _ => first | exact ⟨q, rfl⟩ | (cases q; done)
theorem rG_le {n m : Nat} {d : D} (q : rG n d = true) (h : n ≤ m) : rG m d = true ∧ rB m d = rB n d := by
  induction h with
  | refl => exact ⟨q, rfl⟩
  | step _ ih =>
    obtain ⟨a, b⟩ := rG_up ih.1
    exact ⟨a, b.trans ih.2⟩
/-- good at a depth, with a bound -/
def GB (n k : Nat) (d : D) : Prop := rG n d = true ∧ rB n d ≤ k
theorem GB.le {n m k l : Nat} {d : D} (h : GB n k d) (hm : n ≤ m) (hk : k ≤ l) : GB m l d := by
  obtain ⟨a, b⟩ := rG_le h.1 hm
  exact ⟨a, by rw [b]; exact Nat.le_trans h.2 hk⟩
theorem sum_le {xs : List D} {f : D → Nat} {B : Nat} (h : ∀ x ∈ xs, f x ≤ B) : (xs.map f).sum ≤ xs.length * B := by
  induction xs with
  | nil => simp
  | cons x xs ih =>
    have h1 := h x (List.mem_cons_self ..)
    have h2 := ih fun y hy => h y (List.mem_cons_of_mem _ hy)
    simp only [List.map_cons, List.sum_cons, List.length_cons, Nat.add_mul, Nat.one_mul]
    omega
theorem GB.lst {n k : Nat} {xs : List D} (h : ∀ x ∈ xs, GB n k x) : GB (n + 1) (xs.length * k + 2 * xs.length + 3) (.lst xs) := by
  refine ⟨List.all_eq_true.mpr fun x hx => (h x hx).1, ?_⟩
  have := sum_le (f := rB n) fun x hx => (h x hx).2
  simp only [rB]
  omega
theorem GB.tup {n k : Nat} {xs : List D} (h : ∀ x ∈ xs, GB n k x) : GB (n + 1) (xs.length * k + 2 * xs.length + 3) (.tup xs) := by
  refine ⟨List.all_eq_true.mpr fun x hx => (h x hx).1, ?_⟩
  have := sum_le (f := rB n) fun x hx => (h x hx).2
  simp only [rB]
  omega
theorem short_gb {n : Nat} {d : D} (h : short n d) : GB 1 (10 * n + 2) d := by
  obtain ⟨s, rfl, h1, h2⟩ := h
  exact ⟨h1, by simp only [rB]; omega⟩
theorem int_gb {i : Int} (h : i.natAbs < 100000) : GB 1 13 (.int i) := ⟨decide_eq_true (by omega), by simp only [rB]; omega⟩
theorem lines_gb {ls : List D} (h : ∀ l ∈ ls, short 20 l) (hl : ls.length ≤ 7) : GB 2 1431 (.lst ls) := by
  have := GB.lst fun l hl => short_gb (h l hl)
  refine this.le (Nat.le_refl _) ?_
  have : ls.length * (10 * 20 + 2) ≤ 7 * 202 := Nat.mul_le_mul hl (Nat.le_refl _)
  omega
theorem sec_gb {d : D} (h : secOk d) : GB 3 3000 d := by
  obtain ⟨a, ls, rfl, h1, h2, h3⟩ := h
  have g1 := (short_gb h1).le (show 1 ≤ 2 by decide) (show 10 * 10 + 2 ≤ 1431 by decide)
  have g2 := lines_gb h2 h3
  refine (GB.tup (n := 2) (k := 1431) (xs := [a, .lst ls]) fun x hx => ?_).le (Nat.le_refl _) (by simp only [List.length_cons, List.length_nil]; omega)
  simp only [List.mem_cons, List.not_mem_nil, or_false] at hx
  rcases hx with rfl | rfl
  · exact g1
  · exact g2
def ivs : List D := [.non, .bl true, .str [], .str [84, 97, 120], .str [115, 101, 99, 116, 105, 111, 110], .int 10000, .int (-1), .lst [], .tup [], .dic [] [], .str [120, 32, 32, 121], .lst [.str [120]], .str [49], .tup [.str [49], .lst [.non]]]
theorem ivs_gb {x : D} (h : x ∈ ivs) : GB 3 100 x := by
  simp only [ivs, List.mem_cons, List.not_mem_nil, or_false] at h
  rcases h with rfl | rfl | rfl | rfl | rfl | rfl | rfl | rfl | rfl | rfl | rfl | rfl | rfl | rfl <;> exact ⟨by decide, by decide⟩
theorem GB.gd {n m k : Nat} {d : D} (h : GB n k d) (hn : n ≤ m) (hk : k ≤ 800000) : Gd m d := h.le hn hk
theorem GB.rp {n k : Nat} {H : Hs} {d : D} (h : GB n k d) (hn : n ≤ 40) (hk : k ≤ 800000) : Rp H d := ⟨d, n, deep_rG h.1 hn, h.1, Nat.le_trans h.2 (by unfold lim; omega)⟩
/-- good wherever the sections stand -/
def VG (j : Nat) (secs : List D) (v : D) : Prop := ∀ H : Hs, H[j]? = some (.lst secs) → Ok H 3 v ∧ Rp H v
theorem vg_frz {j : Nat} {secs : List D} {n k : Nat} {v : D} (h : GB n k v) (hn : n ≤ 7) (hk : k ≤ 800000) : VG j secs v := fun H _ => ⟨⟨.inl (h.gd hn hk)⟩, h.rp (by omega) hk⟩
theorem secs_gb {secs : List D} (h : ∀ s ∈ secs, secOk s) (hl : secs.length ≤ 9) : GB 4 30000 (.lst secs) := by
  refine (GB.lst fun s hs => sec_gb (h s hs)).le (Nat.le_refl _) ?_
  have : secs.length * 3000 ≤ 9 * 3000 := Nat.mul_le_mul hl (Nat.le_refl _)
  omega
theorem deep_at {H : Hs} {j : Nat} {secs : List D} (hj : H[j]? = some (.lst secs)) (h : ∀ s ∈ secs, secOk s) {m : Nat} (hm : 4 ≤ m) : deep true H m (.ref j) = some (.lst secs) := by
  obtain ⟨m, rfl⟩ : ∃ n, m = n + 1 := ⟨m - 1, by omega⟩
  have hx : ∀ s ∈ secs, deep true H m s = some s := fun s hs => deep_rG (sec_gb (h s hs)).1 (by omega)
  simp only [deep, hj, Option.bind_some, seqN, mapO_id hx, Option.map_some]
/-- a tuple or list with the sections' node in it -/
theorem rp_ref {j : Nat} {secs : List D} {H : Hs} (hj : H[j]? = some (.lst secs)) (hs : ∀ s ∈ secs, secOk s) (hl : secs.length ≤ 9) {mk : List D → D} (hmk : ∀ xs ys, mapO (deep true H 39) xs = some ys → deep true H 40 (mk xs) = some (mk ys)) (hgb : ∀ xs, (∀ x ∈ xs, GB 4 30000 x) → GB 5 (xs.length * 30000 + 2 * xs.length + 3) (mk xs))
    {as bs : List D} (ha : ∀ x ∈ as, GB 4 30000 x) (hb : ∀ x ∈ bs, GB 4 30000 x) (hlen : as.length + bs.length ≤ 10) : Rp H (mk (as ++ [.ref j] ++ bs)) := by
  have m1 : ∀ {l : List D}, (∀ x ∈ l, GB 4 30000 x) → mapO (deep true H 39) l = some l := fun {l} h => mapO_id fun x hx => deep_rG (h x hx).1 (by omega)
  have m2 : ∀ (l1 l2 : List D) {r1 r2 : List D}, mapO (deep true H 39) l1 = some r1 → mapO (deep true H 39) l2 = some r2 → mapO (deep true H 39) (l1 ++ l2) = some (r1 ++ r2) := fun l1 => by
    induction l1 with
    | nil => intro l2 r1 r2 h1 h2; cases h1; simpa using h2
    | cons a l1 ih =>
      intro l2 r1 r2 h1 h2
      simp only [mapO, Option.bind_eq_some_iff] at h1
      obtain ⟨y, e1, ys, e2, e3⟩ := h1
      cases e3
      simp only [List.cons_append, mapO, e1, ih l2 e2 h2, Option.bind_some]
  have mj : mapO (deep true H 39) [D.ref j] = some [.lst secs] := by
    simp only [mapO, deep_at hj hs (show 4 ≤ 39 by decide), Option.bind_some]
  have g := hgb (as ++ [.lst secs] ++ bs) fun x hx => by
    rcases List.mem_append.mp hx with hx | hx
    · rcases List.mem_append.mp hx with hx | hx
      · exact ha x hx
      · rw [List.mem_singleton.mp hx]
        exact secs_gb hs hl
    · exact hb x hx
  refine ⟨mk (as ++ [.lst secs] ++ bs), 5, hmk _ _ (m2 _ _ (m2 _ _ (m1 ha) mj) (m1 hb)), g.1, Nat.le_trans g.2 ?_⟩
  simp only [List.length_append, List.length_cons, List.length_nil, lim]
  omega
theorem rp_tup {j : Nat} {secs : List D} {H : Hs} (hj : H[j]? = some (.lst secs)) (hs : ∀ s ∈ secs, secOk s) (hl : secs.length ≤ 9) {as bs : List D} (ha : ∀ x ∈ as, GB 4 30000 x) (hb : ∀ x ∈ bs, GB 4 30000 x) (hlen : as.length + bs.length ≤ 10) : Rp H (.tup (as ++ [.ref j] ++ bs)) :=
  rp_ref hj hs hl (mk := .tup) (fun xs ys e => by simp only [deep, e, Option.map_some]) (fun xs h => GB.tup h) ha hb hlen
theorem rp_lst {j : Nat} {secs : List D} {H : Hs} (hj : H[j]? = some (.lst secs)) (hs : ∀ s ∈ secs, secOk s) (hl : secs.length ≤ 9) {as bs : List D} (ha : ∀ x ∈ as, GB 4 30000 x) (hb : ∀ x ∈ bs, GB 4 30000 x) (hlen : as.length + bs.length ≤ 10) : Rp H (.lst (as ++ [.ref j] ++ bs)) :=
  rp_ref hj hs hl (mk := .lst) (fun xs ys e => by simp only [deep, e, Option.map_some]) (fun xs h => GB.lst h) ha hb hlen
/-- two parts and the sections' node -/
theorem vg_ref {j : Nat} {secs : List D} {a b : D} (hs : ∀ s ∈ secs, secOk s) (hl : secs.length ≤ 9) (ha : GB 4 30000 a) (hb : GB 4 30000 b) : VG j secs (.tup [a, b, .ref j]) := fun H hj =>
  ⟨⟨.inr (.inl ⟨a, b, j, secs, rfl, ha.gd (by decide) (by decide), hb.gd (by decide) (by decide), hj, fun s h => (sec_gb (hs s h)).gd (by decide) (by decide)⟩)⟩,
    rp_tup (as := [a, b]) (bs := []) hj hs hl (fun x hx => by
      simp only [List.mem_cons, List.not_mem_nil, or_false] at hx
      rcases hx with rfl | rfl
      · exact ha
      · exact hb) (by simp) (by simp)⟩
theorem c_ne_ref {h : Hs} {j : Nat} {secs : List D} (hj : h[j]? = some (.lst secs)) (hp : ∀ z ∈ secs, pl 39 z = true) : cmpD h .NotEq (.ref j) (.lst []) = some (!secs.isEmpty) := by
  show (eqD h (.ref j) (.lst [])).map _ = _
  unfold eqD
  have e : deep false h 40 (.ref j) = some (.lst secs) := by
    have hx : ∀ s ∈ secs, deep false h 39 s = some s := fun s hs => deep_pl (hp s hs)
    simp only [deep, hj, Option.bind_some, seqN, mapO_id hx, Option.map_some]
  have e2 : deep false h 40 (.lst []) = some (.lst []) := rfl
  rw [e, e2]
  cases secs <;> rfl
theorem sec_pl {d : D} (h : secOk d) : pl 39 d = true := by
  obtain ⟨a, ls, rfl, ⟨s, rfl, _, _⟩, h2, _⟩ := h
  refine pl_tup fun x hx => ?_
  simp only [List.mem_cons, List.not_mem_nil, or_false] at hx
  rcases hx with rfl | rfl
  · rfl
  · refine pl_lst fun l hl => ?_
    obtain ⟨t, rfl, _, _⟩ := h2 l hl
    rfl
theorem get_last {h : Hs} {x : Nd} : (h ++ [x])[h.length]? = some x := by simp
theorem cut_one {α : Type} {ls : List α} : cutL ls (some 1) none = ls.drop 1 := by
  cases ls with
  | nil => rfl
  | cons a ls => exact cut_drop (xs := a :: ls) (k := 1) (by decide) (by simp only [List.length_cons]; omega)
theorem pair_gb {n k : Nat} {a b : D} (ha : GB n k a) (hb : GB n k b) : GB (n + 1) (2 * k + 7) (.tup [a, b]) := by
  refine (GB.tup (n := n) (k := k) (xs := [a, b]) fun x hx => ?_).le (Nat.le_refl _) (by simp only [List.length_cons, List.length_nil]; omega)
  simp only [List.mem_cons, List.not_mem_nil, or_false] at hx
  rcases hx with rfl | rfl
  · exact ha
  · exact hb
theorem tri_gb {n k : Nat} {a b c : D} (ha : GB n k a) (hb : GB n k b) (hc : GB n k c) : GB (n + 1) (3 * k + 9) (.tup [a, b, c]) := by
  refine (GB.tup (n := n) (k := k) (xs := [a, b, c]) fun x hx => ?_).le (Nat.le_refl _) (by simp only [List.length_cons, List.length_nil]; omega)
  simp only [List.mem_cons, List.not_mem_nil, or_false] at hx
  rcases hx with rfl | rfl | rfl
  · exact ha
  · exact hb
  · exact hc
/-- an altered section -/
theorem cand_gb {inv a : D} {ls : List D} (hi : GB 3 100 inv) (ha : short 10 a) (hls : ∀ l ∈ ls, short 20 l) (hll : ls.length ≤ 7) {c : D} (h : c ∈ [D.tup [inv, .lst ls], D.tup [a, inv], D.tup [a, .lst ls, inv], inv, D.tup [a, .lst (ls ++ [inv])]] ++ [D.tup [a, .lst ([inv] ++ ls.drop 1)]]) : GB 5 5000 c := by
  have g1 := (short_gb ha).le (show 1 ≤ 3 by decide) (show 10 * 10 + 2 ≤ 1431 by decide)
  have g2 := (lines_gb hls hll).le (show 2 ≤ 3 by decide) (Nat.le_refl _)
  have g3 := hi.le (Nat.le_refl 3) (show 100 ≤ 1431 by decide)
  have wide : ∀ xs : List D, xs.length ≤ 8 → (∀ x ∈ xs, GB 3 202 x) → GB 4 1700 (.lst xs) := fun xs hx hg => by
    refine (GB.lst hg).le (Nat.le_refl _) ?_
    have : xs.length * 202 ≤ 8 * 202 := Nat.mul_le_mul hx (Nat.le_refl _)
    omega
  have gl : ∀ l ∈ ls, GB 3 202 l := fun l hl => (short_gb (hls l hl)).le (by decide) (by decide)
  simp only [List.mem_append, List.mem_cons, List.not_mem_nil, or_false] at h
  rcases h with (rfl | rfl | rfl | rfl | rfl) | rfl
  · exact (pair_gb g3 g2).le (by decide) (by decide)
  · exact (pair_gb g1 g3).le (by decide) (by decide)
  · exact (tri_gb g1 g2 g3).le (by decide) (by decide)
  · exact hi.le (by decide) (by decide)
  · refine (pair_gb (g1.le (show 3 ≤ 4 by decide) (show 1431 ≤ 1700 by decide)) (wide _ (by simp only [List.length_append, List.length_cons, List.length_nil]; omega) fun x hx => ?_)).le (by decide) (by decide)
    rcases List.mem_append.mp hx with hx | hx
    · exact gl x hx
    · rw [List.mem_singleton.mp hx]
      exact hi.le (Nat.le_refl _) (by decide)
  · refine (pair_gb (g1.le (show 3 ≤ 4 by decide) (show 1431 ≤ 1700 by decide)) (wide _ (by simp only [List.length_append, List.length_cons, List.length_nil, List.length_drop]; omega) fun x hx => ?_)).le (by decide) (by decide)
    rcases List.mem_append.mp hx with hx | hx
    · rw [List.mem_singleton.mp hx]
      exact hi.le (Nat.le_refl _) (by decide)
    · exact gl x (List.mem_of_mem_drop hx)
/-- _law_altered -/
theorem alt18 {i j : Nat} {h0 h : Hs} {secs : List D} {s : List Nat} {d : Int} (p : PoolAt i h0 h) (hj : h0[j]? = some (.lst secs)) (hij : j ≠ i) (hs : ∀ s ∈ secs, secOk s) (hl : secs.length ≤ 9) (hs1 : okB s = true) (hs2 : s.length ≤ 4) (hd : 0 ≤ d ∧ d ≤ 9999) :
    okR (callN gl Fs 59 18 [.ref i, .tup [.str s, .int d, .ref j]] h) fun v h' => ∃ t, PoolAt i (h0 ++ t) h' ∧ VG j secs v := by
  have gs : GB 4 30000 (.str s) := (short_gb ⟨s, rfl, hs1, hs2⟩).le (by decide) (by decide)
  have gd : GB 4 30000 (.int d) := (int_gb (by omega)).le (by decide) (by decide)
  rw [c_18 58]
  obtain ⟨inv, h1, e1, p1, m1⟩ := okR_inv (choose_ok (G := gl) (Fs := Fs) (N := 58) (f := 13) (g := 12) (xs := ivs) (by decide) rfl rfl p (by decide) (by decide))
  have gi : GB 4 30000 inv := (ivs_gb m1).le (by decide) (by decide)
  simp only [ivs] at e1
  refine okR_fin (okQ_cons ?_)
  simp (config := {implicitDefEqProofs := false}) only [evSs_nil, nx_nx, nx_rt, evS.eq_1, evS.eq_2, evS.eq_3, evS.eq_4, evS.eq_5, evS.eq_6, evS.eq_7, evS_for, evS.eq_9, evS.eq_10, evS.eq_11, evS.eq_12, evS.eq_13, evS.eq_14, evE, evEs, evO, evC, evI, R.bind_ok, R.bind_exc, R.q_ok, R.q_exc, R.of_some, R.nox_ok, Q.bind_nx, Q.bind_rt, Q.bind_bk, Q.bind_ct, Q.bind_exc, fin_rt, fin_nx, fin_exc, List.getElem?_cons_zero, List.getElem?_cons_succ, List.set_cons_zero, List.set_cons_succ, asgT, asgTs, lstOf, wipeS, srcOf, lstV, if_true, if_false, Bool.false_eq_true, Bool.true_eq_false, Bool.not_true, Bool.not_false, decide_true, decide_false, t_bl, t_int, t_non, t_tup, t_lst, c_lt, c_le, c_gt, c_ge, c_eqi, c_nei, c_eqs, c_nes, c_isN, c_isnN, c_isB, c_isnB, b_add, b_sub, ix_tup, ix_frz, ix_scr, at0, at1, isTys_nil, isTys_cons, ty_int_non, ty_int_bl, ty_int_int, ty_int_str, ty_int_tup, ty_int_lst, ty_int_dic, ty_bool_non, ty_bool_bl, ty_bool_int, ty_bool_str, ty_bool_tup, ty_bool_lst, ty_bool_dic, ty_str_non, ty_str_bl, ty_str_int, ty_str_str, ty_str_tup, ty_str_lst, ty_str_dic, ty_tuple_non, ty_tuple_bl, ty_tuple_int, ty_tuple_str, ty_tuple_tup, ty_tuple_lst, ty_tuple_dic, ty_list_non, ty_list_bl, ty_list_int, ty_list_str, ty_list_tup, ty_list_lst, ty_list_dic, ty_dict_non, ty_dict_bl, ty_dict_int, ty_dict_str, ty_dict_tup, ty_dict_lst, ty_dict_dic, ty_err_exn, ty_own_exn, bi_len_scr, bi_len_tup, bi_len_lst, bi_tuple_lst, bi_tuple_tup, bi_list_lst, bi_list_tup, bi_max, bi_min, mt_append, mt_part, mt_split, mt_splitN, mt_join, sl_tup, sl_lst, seqV, end_raw, Option.bind_some, Option.map_some, chk_nil, List.append_nil, okR_ok, okQ_ok, c_ins, c_nins, Int.cast_ofNat_Int, List.length_cons, List.length_nil, List.cons.injEq, and_self, and_true, true_and, and_false, false_and, Nat.zero_add, not_true_eq_false, not_false_eq_true, Bool.true_and, Bool.and_true, Bool.false_and, Bool.and_false, Bool.true_or, Bool.or_true, Bool.false_or, Bool.or_false, beq_self_eq_true, eq_self, e1, Nat.reduceBEq, Int.reduceBEq, String.reduceBEq, String.reduceEq, Nat.reduceEqDiff, reduceCtorEq, Int.reduceNeg, Int.reduceLT, Int.reduceLE, Int.reduceEq, Int.reduceAdd, Int.reduceSub, Nat.reduceLT, Nat.reduceLeDiff, Nat.reduceAdd, Nat.reduceSub, Nat.reduceEqDiff]
  refine okQ_cons ?_
  simp (config := {implicitDefEqProofs := false}) only [evSs_nil, nx_nx, nx_rt, evS.eq_1, evS.eq_2, evS.eq_3, evS.eq_4, evS.eq_5, evS.eq_6, evS.eq_7, evS_for, evS.eq_9, evS.eq_10, evS.eq_11, evS.eq_12, evS.eq_13, evS.eq_14, evE, evEs, evO, evC, evI, R.bind_ok, R.bind_exc, R.q_ok, R.q_exc, R.of_some, R.nox_ok, Q.bind_nx, Q.bind_rt, Q.bind_bk, Q.bind_ct, Q.bind_exc, fin_rt, fin_nx, fin_exc, List.getElem?_cons_zero, List.getElem?_cons_succ, List.set_cons_zero, List.set_cons_succ, asgT, asgTs, lstOf, wipeS, srcOf, lstV, if_true, if_false, Bool.false_eq_true, Bool.true_eq_false, Bool.not_true, Bool.not_false, decide_true, decide_false, t_bl, t_int, t_non, t_tup, t_lst, c_lt, c_le, c_gt, c_ge, c_eqi, c_nei, c_eqs, c_nes, c_isN, c_isnN, c_isB, c_isnB, b_add, b_sub, ix_tup, ix_frz, ix_scr, at0, at1, isTys_nil, isTys_cons, ty_int_non, ty_int_bl, ty_int_int, ty_int_str, ty_int_tup, ty_int_lst, ty_int_dic, ty_bool_non, ty_bool_bl, ty_bool_int, ty_bool_str, ty_bool_tup, ty_bool_lst, ty_bool_dic, ty_str_non, ty_str_bl, ty_str_int, ty_str_str, ty_str_tup, ty_str_lst, ty_str_dic, ty_tuple_non, ty_tuple_bl, ty_tuple_int, ty_tuple_str, ty_tuple_tup, ty_tuple_lst, ty_tuple_dic, ty_list_non, ty_list_bl, ty_list_int, ty_list_str, ty_list_tup, ty_list_lst, ty_list_dic, ty_dict_non, ty_dict_bl, ty_dict_int, ty_dict_str, ty_dict_tup, ty_dict_lst, ty_dict_dic, ty_err_exn, ty_own_exn, bi_len_scr, bi_len_tup, bi_len_lst, bi_tuple_lst, bi_tuple_tup, bi_list_lst, bi_list_tup, bi_max, bi_min, mt_append, mt_part, mt_split, mt_splitN, mt_join, sl_tup, sl_lst, seqV, end_raw, Option.bind_some, Option.map_some, chk_nil, List.append_nil, okR_ok, okQ_ok, c_ins, c_nins, Int.cast_ofNat_Int, List.length_cons, List.length_nil, List.cons.injEq, and_self, and_true, true_and, and_false, false_and, Nat.zero_add, not_true_eq_false, not_false_eq_true, Bool.true_and, Bool.and_true, Bool.false_and, Bool.and_false, Bool.true_or, Bool.or_true, Bool.false_or, Bool.or_false, beq_self_eq_true, eq_self, Nat.reduceBEq, Int.reduceBEq, String.reduceBEq, String.reduceEq, Nat.reduceEqDiff, reduceCtorEq, Int.reduceNeg, Int.reduceLT, Int.reduceLE, Int.reduceEq, Int.reduceAdd, Int.reduceSub, Nat.reduceLT, Nat.reduceLeDiff, Nat.reduceAdd, Nat.reduceSub, Nat.reduceEqDiff]
  have tail : ∀ {sl6 sl7 sl8 sl9 : Option D} {h2 : Hs}, PoolAt i h0 h2 → okQ (evSs gl (callN gl Fs 58) [.asg (.nm 9) (.lst [.tup [.var 2, .var 4, .var 5], .tup [.var 3, .var 2, .var 5], .tup [.var 3, .var 4, .var 2], .bi .list [.var 1] false, .sl (.var 1) none (some (.cst (.int 2))), .bin .Add (.var 1) (.tup [.var 2]), .var 2] true), .ret (some (.call 13 [.var 0, .var 9] .raw))]
      [some (.ref i), some (.tup [.str s, .int d, .ref j]), some inv, some (.str s), some (.int d), some (.ref j), sl6, sl7, sl8, sl9] h2) fun F _ h' => match F with
      | .rt v => ∃ t, PoolAt i (h0 ++ t) h' ∧ VG j secs v
      | _ => False := fun {sl6 sl7 sl8 sl9 h2} p2 => by
    refine okQ_cons ?_
    simp (config := {implicitDefEqProofs := false}) only [evSs_nil, nx_nx, nx_rt, evS.eq_1, evS.eq_2, evS.eq_3, evS.eq_4, evS.eq_5, evS.eq_6, evS.eq_7, evS_for, evS.eq_9, evS.eq_10, evS.eq_11, evS.eq_12, evS.eq_13, evS.eq_14, evE, evEs, evO, evC, evI, R.bind_ok, R.bind_exc, R.q_ok, R.q_exc, R.of_some, R.nox_ok, Q.bind_nx, Q.bind_rt, Q.bind_bk, Q.bind_ct, Q.bind_exc, fin_rt, fin_nx, fin_exc, List.getElem?_cons_zero, List.getElem?_cons_succ, List.set_cons_zero, List.set_cons_succ, asgT, asgTs, lstOf, wipeS, srcOf, lstV, if_true, if_false, Bool.false_eq_true, Bool.true_eq_false, Bool.not_true, Bool.not_false, decide_true, decide_false, t_bl, t_int, t_non, t_tup, t_lst, c_lt, c_le, c_gt, c_ge, c_eqi, c_nei, c_eqs, c_nes, c_isN, c_isnN, c_isB, c_isnB, b_add, b_sub, ix_tup, ix_frz, ix_scr, at0, at1, isTys_nil, isTys_cons, ty_int_non, ty_int_bl, ty_int_int, ty_int_str, ty_int_tup, ty_int_lst, ty_int_dic, ty_bool_non, ty_bool_bl, ty_bool_int, ty_bool_str, ty_bool_tup, ty_bool_lst, ty_bool_dic, ty_str_non, ty_str_bl, ty_str_int, ty_str_str, ty_str_tup, ty_str_lst, ty_str_dic, ty_tuple_non, ty_tuple_bl, ty_tuple_int, ty_tuple_str, ty_tuple_tup, ty_tuple_lst, ty_tuple_dic, ty_list_non, ty_list_bl, ty_list_int, ty_list_str, ty_list_tup, ty_list_lst, ty_list_dic, ty_dict_non, ty_dict_bl, ty_dict_int, ty_dict_str, ty_dict_tup, ty_dict_lst, ty_dict_dic, ty_err_exn, ty_own_exn, bi_len_scr, bi_len_tup, bi_len_lst, bi_tuple_lst, bi_tuple_tup, bi_list_lst, bi_list_tup, bi_max, bi_min, mt_append, mt_part, mt_split, mt_splitN, mt_join, sl_tup, sl_lst, seqV, end_raw, Option.bind_some, Option.map_some, chk_nil, List.append_nil, okR_ok, okQ_ok, c_ins, c_nins, Int.cast_ofNat_Int, List.length_cons, List.length_nil, List.cons.injEq, and_self, and_true, true_and, and_false, false_and, Nat.zero_add, not_true_eq_false, not_false_eq_true, Bool.true_and, Bool.and_true, Bool.false_and, Bool.and_false, Bool.true_or, Bool.or_true, Bool.false_or, Bool.or_false, beq_self_eq_true, eq_self, b_addt (show [D.str s, D.int d, D.ref j].length + [inv].length ≤ lim by simp [lim]), cut_take (xs := [D.str s, D.int d, D.ref j]) (k := 2) (by decide) (by simp), Nat.reduceBEq, Int.reduceBEq, String.reduceBEq, String.reduceEq, Nat.reduceEqDiff, reduceCtorEq, Int.reduceNeg, Int.reduceLT, Int.reduceLE, Int.reduceEq, Int.reduceAdd, Int.reduceSub, Nat.reduceLT, Nat.reduceLeDiff, Nat.reduceAdd, Nat.reduceSub, Nat.reduceEqDiff]
    have hL : h2.length = h0.length := p2.len
    have p3 := p2.app (t := [Nd.lst [D.tup [inv, D.int d, D.ref j], D.tup [D.str s, inv, D.ref j], D.tup [D.str s, D.int d, inv], D.lst [D.str s, D.int d, D.ref j], D.tup (List.take (Int.toNat 2) [D.str s, D.int d, D.ref j]), D.tup ([D.str s, D.int d, D.ref j] ++ [inv]), inv]])
    have hi0 : i < h0.length := p2.1
    obtain ⟨v, h3, e3, p4, m4⟩ := okR_inv (choose_ref (G := gl) (Fs := Fs) (N := 58) (f := 13) (g := 12) (j := h0.length) (by decide) rfl rfl p3 get_last (by omega) (by simp) (by simp))
    refine okQ_cons ?_
    rw [hL]
    simp (config := {implicitDefEqProofs := false}) only [evSs_nil, nx_nx, nx_rt, evS.eq_1, evS.eq_2, evS.eq_3, evS.eq_4, evS.eq_5, evS.eq_6, evS.eq_7, evS_for, evS.eq_9, evS.eq_10, evS.eq_11, evS.eq_12, evS.eq_13, evS.eq_14, evE, evEs, evO, evC, evI, R.bind_ok, R.bind_exc, R.q_ok, R.q_exc, R.of_some, R.nox_ok, Q.bind_nx, Q.bind_rt, Q.bind_bk, Q.bind_ct, Q.bind_exc, fin_rt, fin_nx, fin_exc, List.getElem?_cons_zero, List.getElem?_cons_succ, List.set_cons_zero, List.set_cons_succ, asgT, asgTs, lstOf, wipeS, srcOf, lstV, if_true, if_false, Bool.false_eq_true, Bool.true_eq_false, Bool.not_true, Bool.not_false, decide_true, decide_false, t_bl, t_int, t_non, t_tup, t_lst, c_lt, c_le, c_gt, c_ge, c_eqi, c_nei, c_eqs, c_nes, c_isN, c_isnN, c_isB, c_isnB, b_add, b_sub, ix_tup, ix_frz, ix_scr, at0, at1, isTys_nil, isTys_cons, ty_int_non, ty_int_bl, ty_int_int, ty_int_str, ty_int_tup, ty_int_lst, ty_int_dic, ty_bool_non, ty_bool_bl, ty_bool_int, ty_bool_str, ty_bool_tup, ty_bool_lst, ty_bool_dic, ty_str_non, ty_str_bl, ty_str_int, ty_str_str, ty_str_tup, ty_str_lst, ty_str_dic, ty_tuple_non, ty_tuple_bl, ty_tuple_int, ty_tuple_str, ty_tuple_tup, ty_tuple_lst, ty_tuple_dic, ty_list_non, ty_list_bl, ty_list_int, ty_list_str, ty_list_tup, ty_list_lst, ty_list_dic, ty_dict_non, ty_dict_bl, ty_dict_int, ty_dict_str, ty_dict_tup, ty_dict_lst, ty_dict_dic, ty_err_exn, ty_own_exn, bi_len_scr, bi_len_tup, bi_len_lst, bi_tuple_lst, bi_tuple_tup, bi_list_lst, bi_list_tup, bi_max, bi_min, mt_append, mt_part, mt_split, mt_splitN, mt_join, sl_tup, sl_lst, seqV, end_raw, Option.bind_some, Option.map_some, chk_nil, List.append_nil, okR_ok, okQ_ok, c_ins, c_nins, Int.cast_ofNat_Int, List.length_cons, List.length_nil, List.cons.injEq, and_self, and_true, true_and, and_false, false_and, Nat.zero_add, not_true_eq_false, not_false_eq_true, Bool.true_and, Bool.and_true, Bool.false_and, Bool.and_false, Bool.true_or, Bool.or_true, Bool.false_or, Bool.or_false, beq_self_eq_true, eq_self, e3, Nat.reduceBEq, Int.reduceBEq, String.reduceBEq, String.reduceEq, Nat.reduceEqDiff, reduceCtorEq, Int.reduceNeg, Int.reduceLT, Int.reduceLE, Int.reduceEq, Int.reduceAdd, Int.reduceSub, Nat.reduceLT, Nat.reduceLeDiff, Nat.reduceAdd, Nat.reduceSub, Nat.reduceEqDiff]
    refine ⟨_, p4, ?_⟩
    simp only [List.mem_cons, List.not_mem_nil, or_false] at m4
    rcases m4 with rfl | rfl | rfl | rfl | rfl | rfl | rfl
    · exact vg_ref hs hl gi gd
    · exact vg_ref hs hl gs gi
    · exact vg_frz (tri_gb gs gd gi) (by decide) (by decide)
    · exact fun H hj => ⟨⟨.inr (.inr (.inl ⟨_, rfl⟩))⟩, rp_lst (as := [.str s, .int d]) (bs := []) hj hs hl (fun x hx => by
        simp only [List.mem_cons, List.not_mem_nil, or_false] at hx
        rcases hx with rfl | rfl
        · exact gs
        · exact gd) (by simp) (by simp)⟩
    · show VG j secs (.tup [.str s, .int d])
      exact vg_frz (pair_gb gs gd) (by decide) (by decide)
    · exact fun H hj => ⟨⟨.inr (.inr (.inr ⟨_, rfl, by simp⟩))⟩, rp_tup (as := [.str s, .int d]) (bs := [inv]) hj hs hl (fun x hx => by
        simp only [List.mem_cons, List.not_mem_nil, or_false] at hx
        rcases hx with rfl | rfl
        · exact gs
        · exact gd) (fun x hx => by rw [List.mem_singleton.mp hx]; exact gi) (by simp)⟩
    · exact vg_frz gi (by decide) (by decide)
  have gj : h1[j]? = some (.lst secs) := by rw [p1.other hij]; exact hj
  refine okQ_cons ?_
  cases hse : secs.isEmpty with
  | true =>
    simp (config := {implicitDefEqProofs := false}) only [evSs_nil, nx_nx, nx_rt, evS.eq_1, evS.eq_2, evS.eq_3, evS.eq_4, evS.eq_5, evS.eq_6, evS.eq_7, evS_for, evS.eq_9, evS.eq_10, evS.eq_11, evS.eq_12, evS.eq_13, evS.eq_14, evE, evEs, evO, evC, evI, R.bind_ok, R.bind_exc, R.q_ok, R.q_exc, R.of_some, R.nox_ok, Q.bind_nx, Q.bind_rt, Q.bind_bk, Q.bind_ct, Q.bind_exc, fin_rt, fin_nx, fin_exc, List.getElem?_cons_zero, List.getElem?_cons_succ, List.set_cons_zero, List.set_cons_succ, asgT, asgTs, lstOf, wipeS, srcOf, lstV, if_true, if_false, Bool.false_eq_true, Bool.true_eq_false, Bool.not_true, Bool.not_false, decide_true, decide_false, t_bl, t_int, t_non, t_tup, t_lst, c_lt, c_le, c_gt, c_ge, c_eqi, c_nei, c_eqs, c_nes, c_isN, c_isnN, c_isB, c_isnB, b_add, b_sub, ix_tup, ix_frz, ix_scr, at0, at1, isTys_nil, isTys_cons, ty_int_non, ty_int_bl, ty_int_int, ty_int_str, ty_int_tup, ty_int_lst, ty_int_dic, ty_bool_non, ty_bool_bl, ty_bool_int, ty_bool_str, ty_bool_tup, ty_bool_lst, ty_bool_dic, ty_str_non, ty_str_bl, ty_str_int, ty_str_str, ty_str_tup, ty_str_lst, ty_str_dic, ty_tuple_non, ty_tuple_bl, ty_tuple_int, ty_tuple_str, ty_tuple_tup, ty_tuple_lst, ty_tuple_dic, ty_list_non, ty_list_bl, ty_list_int, ty_list_str, ty_list_tup, ty_list_lst, ty_list_dic, ty_dict_non, ty_dict_bl, ty_dict_int, ty_dict_str, ty_dict_tup, ty_dict_lst, ty_dict_dic, ty_err_exn, ty_own_exn, bi_len_scr, bi_len_tup, bi_len_lst, bi_tuple_lst, bi_tuple_tup, bi_list_lst, bi_list_tup, bi_max, bi_min, mt_append, mt_part, mt_split, mt_splitN, mt_join, sl_tup, sl_lst, seqV, end_raw, Option.bind_some, Option.map_some, chk_nil, List.append_nil, okR_ok, okQ_ok, c_ins, c_nins, Int.cast_ofNat_Int, List.length_cons, List.length_nil, List.cons.injEq, and_self, and_true, true_and, and_false, false_and, Nat.zero_add, not_true_eq_false, not_false_eq_true, Bool.true_and, Bool.and_true, Bool.false_and, Bool.and_false, Bool.true_or, Bool.or_true, Bool.false_or, Bool.or_false, beq_self_eq_true, eq_self, c_ne_ref gj (fun z hz => sec_pl (hs z hz)), hse, Nat.reduceBEq, Int.reduceBEq, String.reduceBEq, String.reduceEq, Nat.reduceEqDiff, reduceCtorEq, Int.reduceNeg, Int.reduceLT, Int.reduceLE, Int.reduceEq, Int.reduceAdd, Int.reduceSub, Nat.reduceLT, Nat.reduceLeDiff, Nat.reduceAdd, Nat.reduceSub, Nat.reduceEqDiff]
    exact okQ_mono (tail p1) fun F _ h' q => by
      cases F <;> first | exact q | exact False.elim q
  | false =>
    obtain ⟨_, h2, e2, p2, d2, rfl, d20, d21⟩ := okR_inv (draw_ok (G := gl) (Fs := Fs) (N := 58) (f := 12) (m := 2) (by decide) rfl p1 (by decide) (by decide))
    by_cases hd0 : d2 = 0
    · subst hd0
      simp (config := {implicitDefEqProofs := false}) only [evSs_nil, nx_nx, nx_rt, evS.eq_1, evS.eq_2, evS.eq_3, evS.eq_4, evS.eq_5, evS.eq_6, evS.eq_7, evS_for, evS.eq_9, evS.eq_10, evS.eq_11, evS.eq_12, evS.eq_13, evS.eq_14, evE, evEs, evO, evC, evI, R.bind_ok, R.bind_exc, R.q_ok, R.q_exc, R.of_some, R.nox_ok, Q.bind_nx, Q.bind_rt, Q.bind_bk, Q.bind_ct, Q.bind_exc, fin_rt, fin_nx, fin_exc, List.getElem?_cons_zero, List.getElem?_cons_succ, List.set_cons_zero, List.set_cons_succ, asgT, asgTs, lstOf, wipeS, srcOf, lstV, if_true, if_false, Bool.false_eq_true, Bool.true_eq_false, Bool.not_true, Bool.not_false, decide_true, decide_false, t_bl, t_int, t_non, t_tup, t_lst, c_lt, c_le, c_gt, c_ge, c_eqi, c_nei, c_eqs, c_nes, c_isN, c_isnN, c_isB, c_isnB, b_add, b_sub, ix_tup, ix_frz, ix_scr, at0, at1, isTys_nil, isTys_cons, ty_int_non, ty_int_bl, ty_int_int, ty_int_str, ty_int_tup, ty_int_lst, ty_int_dic, ty_bool_non, ty_bool_bl, ty_bool_int, ty_bool_str, ty_bool_tup, ty_bool_lst, ty_bool_dic, ty_str_non, ty_str_bl, ty_str_int, ty_str_str, ty_str_tup, ty_str_lst, ty_str_dic, ty_tuple_non, ty_tuple_bl, ty_tuple_int, ty_tuple_str, ty_tuple_tup, ty_tuple_lst, ty_tuple_dic, ty_list_non, ty_list_bl, ty_list_int, ty_list_str, ty_list_tup, ty_list_lst, ty_list_dic, ty_dict_non, ty_dict_bl, ty_dict_int, ty_dict_str, ty_dict_tup, ty_dict_lst, ty_dict_dic, ty_err_exn, ty_own_exn, bi_len_scr, bi_len_tup, bi_len_lst, bi_tuple_lst, bi_tuple_tup, bi_list_lst, bi_list_tup, bi_max, bi_min, mt_append, mt_part, mt_split, mt_splitN, mt_join, sl_tup, sl_lst, seqV, end_raw, Option.bind_some, Option.map_some, chk_nil, List.append_nil, okR_ok, okQ_ok, c_ins, c_nins, Int.cast_ofNat_Int, List.length_cons, List.length_nil, List.cons.injEq, and_self, and_true, true_and, and_false, false_and, Nat.zero_add, not_true_eq_false, not_false_eq_true, Bool.true_and, Bool.and_true, Bool.false_and, Bool.and_false, Bool.true_or, Bool.or_true, Bool.false_or, Bool.or_false, beq_self_eq_true, eq_self, c_ne_ref gj (fun z hz => sec_pl (hs z hz)), hse, e2, Nat.reduceBEq, Int.reduceBEq, String.reduceBEq, String.reduceEq, Nat.reduceEqDiff, reduceCtorEq, Int.reduceNeg, Int.reduceLT, Int.reduceLE, Int.reduceEq, Int.reduceAdd, Int.reduceSub, Nat.reduceLT, Nat.reduceLeDiff, Nat.reduceAdd, Nat.reduceSub, Nat.reduceEqDiff]
      have gj2 : h2[j]? = some (.lst secs) := by rw [p2.other hij]; exact hj
      have hpos : 0 < secs.length := by
        cases secs with
        | nil => simp at hse
        | cons => simp
      obtain ⟨_, h3, e3, p3, d3, rfl, d30, d31⟩ := okR_inv (draw_ok (G := gl) (Fs := Fs) (N := 58) (f := 12) (m := secs.length) (by decide) rfl p2 (by omega) (by omega))
      have gj3 : h3[j]? = some (.lst secs) := by rw [p3.other hij]; exact hj
      refine okQ_cons ?_
      simp (config := {implicitDefEqProofs := false}) only [evSs_nil, nx_nx, nx_rt, evS.eq_1, evS.eq_2, evS.eq_3, evS.eq_4, evS.eq_5, evS.eq_6, evS.eq_7, evS_for, evS.eq_9, evS.eq_10, evS.eq_11, evS.eq_12, evS.eq_13, evS.eq_14, evE, evEs, evO, evC, evI, R.bind_ok, R.bind_exc, R.q_ok, R.q_exc, R.of_some, R.nox_ok, Q.bind_nx, Q.bind_rt, Q.bind_bk, Q.bind_ct, Q.bind_exc, fin_rt, fin_nx, fin_exc, List.getElem?_cons_zero, List.getElem?_cons_succ, List.set_cons_zero, List.set_cons_succ, asgT, asgTs, lstOf, wipeS, srcOf, lstV, if_true, if_false, Bool.false_eq_true, Bool.true_eq_false, Bool.not_true, Bool.not_false, decide_true, decide_false, t_bl, t_int, t_non, t_tup, t_lst, c_lt, c_le, c_gt, c_ge, c_eqi, c_nei, c_eqs, c_nes, c_isN, c_isnN, c_isB, c_isnB, b_add, b_sub, ix_tup, ix_frz, ix_scr, at0, at1, isTys_nil, isTys_cons, ty_int_non, ty_int_bl, ty_int_int, ty_int_str, ty_int_tup, ty_int_lst, ty_int_dic, ty_bool_non, ty_bool_bl, ty_bool_int, ty_bool_str, ty_bool_tup, ty_bool_lst, ty_bool_dic, ty_str_non, ty_str_bl, ty_str_int, ty_str_str, ty_str_tup, ty_str_lst, ty_str_dic, ty_tuple_non, ty_tuple_bl, ty_tuple_int, ty_tuple_str, ty_tuple_tup, ty_tuple_lst, ty_tuple_dic, ty_list_non, ty_list_bl, ty_list_int, ty_list_str, ty_list_tup, ty_list_lst, ty_list_dic, ty_dict_non, ty_dict_bl, ty_dict_int, ty_dict_str, ty_dict_tup, ty_dict_lst, ty_dict_dic, ty_err_exn, ty_own_exn, bi_len_scr, bi_len_tup, bi_len_lst, bi_tuple_lst, bi_tuple_tup, bi_list_lst, bi_list_tup, bi_max, bi_min, mt_append, mt_part, mt_split, mt_splitN, mt_join, sl_tup, sl_lst, seqV, end_raw, Option.bind_some, Option.map_some, chk_nil, List.append_nil, okR_ok, okQ_ok, c_ins, c_nins, Int.cast_ofNat_Int, List.length_cons, List.length_nil, List.cons.injEq, and_self, and_true, true_and, and_false, false_and, Nat.zero_add, not_true_eq_false, not_false_eq_true, Bool.true_and, Bool.and_true, Bool.false_and, Bool.and_false, Bool.true_or, Bool.or_true, Bool.false_or, Bool.or_false, beq_self_eq_true, eq_self, bi_len_ref gj2, e3, Nat.reduceBEq, Int.reduceBEq, String.reduceBEq, String.reduceEq, Nat.reduceEqDiff, reduceCtorEq, Int.reduceNeg, Int.reduceLT, Int.reduceLE, Int.reduceEq, Int.reduceAdd, Int.reduceSub, Nat.reduceLT, Nat.reduceLeDiff, Nat.reduceAdd, Nat.reduceSub, Nat.reduceEqDiff]
      obtain ⟨sec, hsec, esec, _⟩ := at_lt d30 d31
      obtain ⟨a, ls, rfl, ha, hls, hll⟩ := hs sec hsec
      refine okQ_cons ?_
      simp (config := {implicitDefEqProofs := false}) only [evSs_nil, nx_nx, nx_rt, evS.eq_1, evS.eq_2, evS.eq_3, evS.eq_4, evS.eq_5, evS.eq_6, evS.eq_7, evS_for, evS.eq_9, evS.eq_10, evS.eq_11, evS.eq_12, evS.eq_13, evS.eq_14, evE, evEs, evO, evC, evI, R.bind_ok, R.bind_exc, R.q_ok, R.q_exc, R.of_some, R.nox_ok, Q.bind_nx, Q.bind_rt, Q.bind_bk, Q.bind_ct, Q.bind_exc, fin_rt, fin_nx, fin_exc, List.getElem?_cons_zero, List.getElem?_cons_succ, List.set_cons_zero, List.set_cons_succ, asgT, asgTs, lstOf, wipeS, srcOf, lstV, if_true, if_false, Bool.false_eq_true, Bool.true_eq_false, Bool.not_true, Bool.not_false, decide_true, decide_false, t_bl, t_int, t_non, t_tup, t_lst, c_lt, c_le, c_gt, c_ge, c_eqi, c_nei, c_eqs, c_nes, c_isN, c_isnN, c_isB, c_isnB, b_add, b_sub, ix_tup, ix_frz, ix_scr, at0, at1, isTys_nil, isTys_cons, ty_int_non, ty_int_bl, ty_int_int, ty_int_str, ty_int_tup, ty_int_lst, ty_int_dic, ty_bool_non, ty_bool_bl, ty_bool_int, ty_bool_str, ty_bool_tup, ty_bool_lst, ty_bool_dic, ty_str_non, ty_str_bl, ty_str_int, ty_str_str, ty_str_tup, ty_str_lst, ty_str_dic, ty_tuple_non, ty_tuple_bl, ty_tuple_int, ty_tuple_str, ty_tuple_tup, ty_tuple_lst, ty_tuple_dic, ty_list_non, ty_list_bl, ty_list_int, ty_list_str, ty_list_tup, ty_list_lst, ty_list_dic, ty_dict_non, ty_dict_bl, ty_dict_int, ty_dict_str, ty_dict_tup, ty_dict_lst, ty_dict_dic, ty_err_exn, ty_own_exn, bi_len_scr, bi_len_tup, bi_len_lst, bi_tuple_lst, bi_tuple_tup, bi_list_lst, bi_list_tup, bi_max, bi_min, mt_append, mt_part, mt_split, mt_splitN, mt_join, sl_tup, sl_lst, seqV, end_raw, Option.bind_some, Option.map_some, chk_nil, List.append_nil, okR_ok, okQ_ok, c_ins, c_nins, Int.cast_ofNat_Int, List.length_cons, List.length_nil, List.cons.injEq, and_self, and_true, true_and, and_false, false_and, Nat.zero_add, not_true_eq_false, not_false_eq_true, Bool.true_and, Bool.and_true, Bool.false_and, Bool.and_false, Bool.true_or, Bool.or_true, Bool.false_or, Bool.or_false, beq_self_eq_true, eq_self, ix_lst gj3, esec, Nat.reduceBEq, Int.reduceBEq, String.reduceBEq, String.reduceEq, Nat.reduceEqDiff, reduceCtorEq, Int.reduceNeg, Int.reduceLT, Int.reduceLE, Int.reduceEq, Int.reduceAdd, Int.reduceSub, Nat.reduceLT, Nat.reduceLeDiff, Nat.reduceAdd, Nat.reduceSub, Nat.reduceEqDiff]
      refine okQ_cons ?_
      simp (config := {implicitDefEqProofs := false}) only [evSs_nil, nx_nx, nx_rt, evS.eq_1, evS.eq_2, evS.eq_3, evS.eq_4, evS.eq_5, evS.eq_6, evS.eq_7, evS_for, evS.eq_9, evS.eq_10, evS.eq_11, evS.eq_12, evS.eq_13, evS.eq_14, evE, evEs, evO, evC, evI, R.bind_ok, R.bind_exc, R.q_ok, R.q_exc, R.of_some, R.nox_ok, Q.bind_nx, Q.bind_rt, Q.bind_bk, Q.bind_ct, Q.bind_exc, fin_rt, fin_nx, fin_exc, List.getElem?_cons_zero, List.getElem?_cons_succ, List.set_cons_zero, List.set_cons_succ, asgT, asgTs, lstOf, wipeS, srcOf, lstV, if_true, if_false, Bool.false_eq_true, Bool.true_eq_false, Bool.not_true, Bool.not_false, decide_true, decide_false, t_bl, t_int, t_non, t_tup, t_lst, c_lt, c_le, c_gt, c_ge, c_eqi, c_nei, c_eqs, c_nes, c_isN, c_isnN, c_isB, c_isnB, b_add, b_sub, ix_tup, ix_frz, ix_scr, at0, at1, isTys_nil, isTys_cons, ty_int_non, ty_int_bl, ty_int_int, ty_int_str, ty_int_tup, ty_int_lst, ty_int_dic, ty_bool_non, ty_bool_bl, ty_bool_int, ty_bool_str, ty_bool_tup, ty_bool_lst, ty_bool_dic, ty_str_non, ty_str_bl, ty_str_int, ty_str_str, ty_str_tup, ty_str_lst, ty_str_dic, ty_tuple_non, ty_tuple_bl, ty_tuple_int, ty_tuple_str, ty_tuple_tup, ty_tuple_lst, ty_tuple_dic, ty_list_non, ty_list_bl, ty_list_int, ty_list_str, ty_list_tup, ty_list_lst, ty_list_dic, ty_dict_non, ty_dict_bl, ty_dict_int, ty_dict_str, ty_dict_tup, ty_dict_lst, ty_dict_dic, ty_err_exn, ty_own_exn, bi_len_scr, bi_len_tup, bi_len_lst, bi_tuple_lst, bi_tuple_tup, bi_list_lst, bi_list_tup, bi_max, bi_min, mt_append, mt_part, mt_split, mt_splitN, mt_join, sl_tup, sl_lst, seqV, end_raw, Option.bind_some, Option.map_some, chk_nil, List.append_nil, okR_ok, okQ_ok, c_ins, c_nins, Int.cast_ofNat_Int, List.length_cons, List.length_nil, List.cons.injEq, and_self, and_true, true_and, and_false, false_and, Nat.zero_add, not_true_eq_false, not_false_eq_true, Bool.true_and, Bool.and_true, Bool.false_and, Bool.and_false, Bool.true_or, Bool.or_true, Bool.false_or, Bool.or_false, beq_self_eq_true, eq_self, b_addl (show ls.length + [inv].length ≤ lim by simp only [List.length_cons, List.length_nil, lim]; omega), Nat.reduceBEq, Int.reduceBEq, String.reduceBEq, String.reduceEq, Nat.reduceEqDiff, reduceCtorEq, Int.reduceNeg, Int.reduceLT, Int.reduceLE, Int.reduceEq, Int.reduceAdd, Int.reduceSub, Nat.reduceLT, Nat.reduceLeDiff, Nat.reduceAdd, Nat.reduceSub, Nat.reduceEqDiff]
      refine okQ_cons ?_
      have hL3 : h3.length = h0.length := p3.len
      have hi0 : i < h0.length := p3.1
      have g9 : (h3 ++ [Nd.lst [D.tup [inv, .lst ls], D.tup [a, inv], D.tup [a, .lst ls, inv], inv, D.tup [a, .lst (ls ++ [inv])]]])[h3.length]? = some (.lst [D.tup [inv, .lst ls], D.tup [a, inv], D.tup [a, .lst ls, inv], inv, D.tup [a, .lst (ls ++ [inv])]]) := get_last
      have s9 : ∀ x y : Nd, (h3 ++ [x]).set h3.length y = h3 ++ [y] := fun x y => by simp
      simp (config := {implicitDefEqProofs := false}) only [evSs_nil, nx_nx, nx_rt, evS.eq_1, evS.eq_2, evS.eq_3, evS.eq_4, evS.eq_5, evS.eq_6, evS.eq_7, evS_for, evS.eq_9, evS.eq_10, evS.eq_11, evS.eq_12, evS.eq_13, evS.eq_14, evE, evEs, evO, evC, evI, R.bind_ok, R.bind_exc, R.q_ok, R.q_exc, R.of_some, R.nox_ok, Q.bind_nx, Q.bind_rt, Q.bind_bk, Q.bind_ct, Q.bind_exc, fin_rt, fin_nx, fin_exc, List.getElem?_cons_zero, List.getElem?_cons_succ, List.set_cons_zero, List.set_cons_succ, asgT, asgTs, lstOf, wipeS, srcOf, lstV, if_true, if_false, Bool.false_eq_true, Bool.true_eq_false, Bool.not_true, Bool.not_false, decide_true, decide_false, t_bl, t_int, t_non, t_tup, t_lst, c_lt, c_le, c_gt, c_ge, c_eqi, c_nei, c_eqs, c_nes, c_isN, c_isnN, c_isB, c_isnB, b_add, b_sub, ix_tup, ix_frz, ix_scr, at0, at1, isTys_nil, isTys_cons, ty_int_non, ty_int_bl, ty_int_int, ty_int_str, ty_int_tup, ty_int_lst, ty_int_dic, ty_bool_non, ty_bool_bl, ty_bool_int, ty_bool_str, ty_bool_tup, ty_bool_lst, ty_bool_dic, ty_str_non, ty_str_bl, ty_str_int, ty_str_str, ty_str_tup, ty_str_lst, ty_str_dic, ty_tuple_non, ty_tuple_bl, ty_tuple_int, ty_tuple_str, ty_tuple_tup, ty_tuple_lst, ty_tuple_dic, ty_list_non, ty_list_bl, ty_list_int, ty_list_str, ty_list_tup, ty_list_lst, ty_list_dic, ty_dict_non, ty_dict_bl, ty_dict_int, ty_dict_str, ty_dict_tup, ty_dict_lst, ty_dict_dic, ty_err_exn, ty_own_exn, bi_len_scr, bi_len_tup, bi_len_lst, bi_tuple_lst, bi_tuple_tup, bi_list_lst, bi_list_tup, bi_max, bi_min, mt_append, mt_part, mt_split, mt_splitN, mt_join, sl_tup, sl_lst, seqV, end_raw, Option.bind_some, Option.map_some, chk_nil, List.append_nil, okR_ok, okQ_ok, c_ins, c_nins, Int.cast_ofNat_Int, List.length_cons, List.length_nil, List.cons.injEq, and_self, and_true, true_and, and_false, false_and, Nat.zero_add, not_true_eq_false, not_false_eq_true, Bool.true_and, Bool.and_true, Bool.false_and, Bool.and_false, Bool.true_or, Bool.or_true, Bool.false_or, Bool.or_false, beq_self_eq_true, eq_self, cut_one, b_addl (show [inv].length + (ls.drop 1).length ≤ lim by simp only [List.length_cons, List.length_nil, List.length_drop, lim]; omega), m_append g9 (show [D.tup [inv, .lst ls], D.tup [a, inv], D.tup [a, .lst ls, inv], inv, D.tup [a, .lst (ls ++ [inv])]].length < lim by simp [lim]), s9, Nat.reduceBEq, Int.reduceBEq, String.reduceBEq, String.reduceEq, Nat.reduceEqDiff, reduceCtorEq, Int.reduceNeg, Int.reduceLT, Int.reduceLE, Int.reduceEq, Int.reduceAdd, Int.reduceSub, Nat.reduceLT, Nat.reduceLeDiff, Nat.reduceAdd, Nat.reduceSub, Nat.reduceEqDiff]
      have p4 := p3.app (t := [Nd.lst ([D.tup [inv, .lst ls], D.tup [a, inv], D.tup [a, .lst ls, inv], inv, D.tup [a, .lst (ls ++ [inv])]] ++ [D.tup [a, .lst ([inv] ++ ls.drop 1)]])])
      obtain ⟨c, h4, e4, p5, m5⟩ := okR_inv (choose_ref (G := gl) (Fs := Fs) (N := 58) (f := 13) (g := 12) (j := h0.length) (by decide) rfl rfl p4 get_last (by omega) (by simp) (by simp))
      have hlt := (List.getElem?_eq_some_iff.mp gj3).1
      have gj4 : (h3 ++ [Nd.lst ([D.tup [inv, .lst ls], D.tup [a, inv], D.tup [a, .lst ls, inv], inv, D.tup [a, .lst (ls ++ [inv])]] ++ [D.tup [a, .lst ([inv] ++ ls.drop 1)]])])[j]? = some (.lst secs) := by rw [List.getElem?_append_left hlt, gj3]
      have gj5 : h4[j]? = some (.lst secs) := by
        rw [p5.other hij, List.getElem?_append_left (by omega)]
        exact hj
      refine okQ_cons ?_
      rw [hL3]
      simp (config := {implicitDefEqProofs := false}) only [evSs_nil, nx_nx, nx_rt, evS.eq_1, evS.eq_2, evS.eq_3, evS.eq_4, evS.eq_5, evS.eq_6, evS.eq_7, evS_for, evS.eq_9, evS.eq_10, evS.eq_11, evS.eq_12, evS.eq_13, evS.eq_14, evE, evEs, evO, evC, evI, R.bind_ok, R.bind_exc, R.q_ok, R.q_exc, R.of_some, R.nox_ok, Q.bind_nx, Q.bind_rt, Q.bind_bk, Q.bind_ct, Q.bind_exc, fin_rt, fin_nx, fin_exc, List.getElem?_cons_zero, List.getElem?_cons_succ, List.set_cons_zero, List.set_cons_succ, asgT, asgTs, lstOf, wipeS, srcOf, lstV, if_true, if_false, Bool.false_eq_true, Bool.true_eq_false, Bool.not_true, Bool.not_false, decide_true, decide_false, t_bl, t_int, t_non, t_tup, t_lst, c_lt, c_le, c_gt, c_ge, c_eqi, c_nei, c_eqs, c_nes, c_isN, c_isnN, c_isB, c_isnB, b_add, b_sub, ix_tup, ix_frz, ix_scr, at0, at1, isTys_nil, isTys_cons, ty_int_non, ty_int_bl, ty_int_int, ty_int_str, ty_int_tup, ty_int_lst, ty_int_dic, ty_bool_non, ty_bool_bl, ty_bool_int, ty_bool_str, ty_bool_tup, ty_bool_lst, ty_bool_dic, ty_str_non, ty_str_bl, ty_str_int, ty_str_str, ty_str_tup, ty_str_lst, ty_str_dic, ty_tuple_non, ty_tuple_bl, ty_tuple_int, ty_tuple_str, ty_tuple_tup, ty_tuple_lst, ty_tuple_dic, ty_list_non, ty_list_bl, ty_list_int, ty_list_str, ty_list_tup, ty_list_lst, ty_list_dic, ty_dict_non, ty_dict_bl, ty_dict_int, ty_dict_str, ty_dict_tup, ty_dict_lst, ty_dict_dic, ty_err_exn, ty_own_exn, bi_len_scr, bi_len_tup, bi_len_lst, bi_tuple_lst, bi_tuple_tup, bi_list_lst, bi_list_tup, bi_max, bi_min, mt_append, mt_part, mt_split, mt_splitN, mt_join, sl_tup, sl_lst, seqV, end_raw, Option.bind_some, Option.map_some, chk_nil, List.append_nil, okR_ok, okQ_ok, c_ins, c_nins, Int.cast_ofNat_Int, List.length_cons, List.length_nil, List.cons.injEq, and_self, and_true, true_and, and_false, false_and, Nat.zero_add, not_true_eq_false, not_false_eq_true, Bool.true_and, Bool.and_true, Bool.false_and, Bool.and_false, Bool.true_or, Bool.or_true, Bool.false_or, Bool.or_false, beq_self_eq_true, eq_self, sl_ref gj4, e4, sl_ref gj5, cut_take (xs := secs) d30 (by omega), cut_drop (xs := secs) (show 0 ≤ d3 + 1 by omega) (show d3 + 1 ≤ secs.length by omega), b_addl (show (secs.take d3.toNat).length + [c].length ≤ lim by rw [List.length_take]; simp only [List.length_cons, List.length_nil, lim]; omega),
        b_addl (show (secs.take d3.toNat ++ [c]).length + (secs.drop (d3 + 1).toNat).length ≤ lim by rw [List.length_append, List.length_take, List.length_drop]; simp only [List.length_cons, List.length_nil, lim]; omega), Nat.reduceBEq, Int.reduceBEq, String.reduceBEq, String.reduceEq, Nat.reduceEqDiff, reduceCtorEq, Int.reduceNeg, Int.reduceLT, Int.reduceLE, Int.reduceEq, Int.reduceAdd, Int.reduceSub, Nat.reduceLT, Nat.reduceLeDiff, Nat.reduceAdd, Nat.reduceSub, Nat.reduceEqDiff]
      refine ⟨_, p5, ?_⟩
      have gc := cand_gb (ivs_gb m1) ha hls hll m5
      have gsec : GB 6 60000 (.lst (secs.take d3.toNat ++ [c] ++ secs.drop (d3 + 1).toNat)) := by
        refine (GB.lst (n := 5) (k := 5000) fun x hx => ?_).le (Nat.le_refl _) ?_
        · rcases List.mem_append.mp hx with hx | hx
          · rcases List.mem_append.mp hx with hx | hx
            · exact (sec_gb (hs x (List.mem_of_mem_take hx))).le (by decide) (by decide)
            · rw [List.mem_singleton.mp hx]
              exact gc
          · exact (sec_gb (hs x (List.mem_of_mem_drop hx))).le (by decide) (by decide)
        · have hl10 : (secs.take d3.toNat ++ [c] ++ secs.drop (d3 + 1).toNat).length ≤ 10 := by
            simp only [List.length_append, List.length_take, List.length_drop, List.length_cons, List.length_nil]
            omega
          have : (secs.take d3.toNat ++ [c] ++ secs.drop (d3 + 1).toNat).length * 5000 ≤ 10 * 5000 := Nat.mul_le_mul hl10 (Nat.le_refl _)
          omega
      exact vg_frz (tri_gb (gs.le (show 4 ≤ 6 by decide) (show 30000 ≤ 60000 by decide)) (gd.le (by decide) (by decide)) gsec) (by decide) (by decide)
    · simp (config := {implicitDefEqProofs := false}) only [evSs_nil, nx_nx, nx_rt, evS.eq_1, evS.eq_2, evS.eq_3, evS.eq_4, evS.eq_5, evS.eq_6, evS.eq_7, evS_for, evS.eq_9, evS.eq_10, evS.eq_11, evS.eq_12, evS.eq_13, evS.eq_14, evE, evEs, evO, evC, evI, R.bind_ok, R.bind_exc, R.q_ok, R.q_exc, R.of_some, R.nox_ok, Q.bind_nx, Q.bind_rt, Q.bind_bk, Q.bind_ct, Q.bind_exc, fin_rt, fin_nx, fin_exc, List.getElem?_cons_zero, List.getElem?_cons_succ, List.set_cons_zero, List.set_cons_succ, asgT, asgTs, lstOf, wipeS, srcOf, lstV, if_true, if_false, Bool.false_eq_true, Bool.true_eq_false, Bool.not_true, Bool.not_false, decide_true, decide_false, t_bl, t_int, t_non, t_tup, t_lst, c_lt, c_le, c_gt, c_ge, c_eqi, c_nei, c_eqs, c_nes, c_isN, c_isnN, c_isB, c_isnB, b_add, b_sub, ix_tup, ix_frz, ix_scr, at0, at1, isTys_nil, isTys_cons, ty_int_non, ty_int_bl, ty_int_int, ty_int_str, ty_int_tup, ty_int_lst, ty_int_dic, ty_bool_non, ty_bool_bl, ty_bool_int, ty_bool_str, ty_bool_tup, ty_bool_lst, ty_bool_dic, ty_str_non, ty_str_bl, ty_str_int, ty_str_str, ty_str_tup, ty_str_lst, ty_str_dic, ty_tuple_non, ty_tuple_bl, ty_tuple_int, ty_tuple_str, ty_tuple_tup, ty_tuple_lst, ty_tuple_dic, ty_list_non, ty_list_bl, ty_list_int, ty_list_str, ty_list_tup, ty_list_lst, ty_list_dic, ty_dict_non, ty_dict_bl, ty_dict_int, ty_dict_str, ty_dict_tup, ty_dict_lst, ty_dict_dic, ty_err_exn, ty_own_exn, bi_len_scr, bi_len_tup, bi_len_lst, bi_tuple_lst, bi_tuple_tup, bi_list_lst, bi_list_tup, bi_max, bi_min, mt_append, mt_part, mt_split, mt_splitN, mt_join, sl_tup, sl_lst, seqV, end_raw, Option.bind_some, Option.map_some, chk_nil, List.append_nil, okR_ok, okQ_ok, c_ins, c_nins, Int.cast_ofNat_Int, List.length_cons, List.length_nil, List.cons.injEq, and_self, and_true, true_and, and_false, false_and, Nat.zero_add, not_true_eq_false, not_false_eq_true, Bool.true_and, Bool.and_true, Bool.false_and, Bool.and_false, Bool.true_or, Bool.or_true, Bool.false_or, Bool.or_false, beq_self_eq_true, eq_self, c_ne_ref gj (fun z hz => sec_pl (hs z hz)), hse, e2, hd0, Nat.reduceBEq, Int.reduceBEq, String.reduceBEq, String.reduceEq, Nat.reduceEqDiff, reduceCtorEq, Int.reduceNeg, Int.reduceLT, Int.reduceLE, Int.reduceEq, Int.reduceAdd, Int.reduceSub, Nat.reduceLT, Nat.reduceLeDiff, Nat.reduceAdd, Nat.reduceSub, Nat.reduceEqDiff]
      exact okQ_mono (tail p2) fun F _ h' q => by
        cases F <;> first | exact q | exact False.elim q
end KX
namespace KX
open PySem L2.MP
theorem law_true (ns : List Int) (hl : ns.length ≤ 63) : ∃ h, callN gl Fs 60 19 [.scr ns] [] = .ok (.bl true) h := by
  have q : okR (callN gl Fs 60 19 [.scr ns] []) fun v _ => v = .bl true := by
    rw [c_19 59]
    refine okR_fin (okQ_cons (okQ_mono (rounds_ok (N := 16) (by decide) 4 (fun _ => True) rfl trivial ?_) ?_))
    rotate_left
    · rintro F sl h ⟨rfl, ⟨l, rfl, _⟩, _⟩
      simp only [nx_nx]
      refine okQ_cons ?_
      simp (config := {implicitDefEqProofs := false}) only [evSs_nil, nx_nx, nx_rt, evS.eq_1, evS.eq_2, evS.eq_3, evS.eq_4, evS.eq_5, evS.eq_6, evS.eq_7, evS_for, evS.eq_9, evS.eq_10, evS.eq_11, evS.eq_12, evS.eq_13, evS.eq_14, evE, evEs, evO, evC, evI, R.bind_ok, R.bind_exc, R.q_ok, R.q_exc, R.of_some, R.nox_ok, Q.bind_nx, Q.bind_rt, Q.bind_bk, Q.bind_ct, Q.bind_exc, fin_rt, fin_nx, fin_exc, List.getElem?_cons_zero, List.getElem?_cons_succ, List.set_cons_zero, List.set_cons_succ, asgT, asgTs, lstOf, wipeS, srcOf, lstV, if_true, if_false, Bool.false_eq_true, Bool.true_eq_false, Bool.not_true, Bool.not_false, decide_true, decide_false, t_bl, t_int, t_non, t_tup, t_lst, c_lt, c_le, c_gt, c_ge, c_eqi, c_nei, c_eqs, c_nes, c_isN, c_isnN, c_isB, c_isnB, b_add, b_sub, ix_tup, ix_frz, ix_scr, at0, at1, isTys_nil, isTys_cons, ty_int_non, ty_int_bl, ty_int_int, ty_int_str, ty_int_tup, ty_int_lst, ty_int_dic, ty_bool_non, ty_bool_bl, ty_bool_int, ty_bool_str, ty_bool_tup, ty_bool_lst, ty_bool_dic, ty_str_non, ty_str_bl, ty_str_int, ty_str_str, ty_str_tup, ty_str_lst, ty_str_dic, ty_tuple_non, ty_tuple_bl, ty_tuple_int, ty_tuple_str, ty_tuple_tup, ty_tuple_lst, ty_tuple_dic, ty_list_non, ty_list_bl, ty_list_int, ty_list_str, ty_list_tup, ty_list_lst, ty_list_dic, ty_dict_non, ty_dict_bl, ty_dict_int, ty_dict_str, ty_dict_tup, ty_dict_lst, ty_dict_dic, ty_err_exn, ty_own_exn, bi_len_scr, bi_len_tup, bi_len_lst, bi_tuple_lst, bi_tuple_tup, bi_list_lst, bi_list_tup, bi_max, bi_min, mt_append, mt_part, mt_split, mt_splitN, mt_join, sl_tup, sl_lst, seqV, end_raw, Option.bind_some, Option.map_some, chk_nil, List.append_nil, okR_ok, okQ_ok, c_ins, c_nins, Int.cast_ofNat_Int, List.length_cons, List.length_nil, List.cons.injEq, and_self, and_true, true_and, and_false, false_and, Nat.zero_add, not_true_eq_false, not_false_eq_true, Bool.true_and, Bool.and_true, Bool.false_and, Bool.and_false, Bool.true_or, Bool.or_true, Bool.false_or, Bool.or_false, beq_self_eq_true, eq_self, Nat.reduceBEq, Int.reduceBEq, String.reduceBEq, String.reduceEq, Nat.reduceEqDiff, reduceCtorEq, Int.reduceNeg, Int.reduceLT, Int.reduceLE, Int.reduceEq, Int.reduceAdd, Int.reduceSub, Nat.reduceLT, Nat.reduceLeDiff, Nat.reduceAdd, Nat.reduceSub, Nat.reduceEqDiff]
    · intro k hk l h hl _
      match l, hl with
      | [s2, s3, s4, s5], _ => ?_
      obtain ⟨_, h1, e1, rfl, p1, _⟩ := okR_inv (newpool_ok (G := gl) (Fs := Fs) (N := 59) (f := 11) (h := h) (ns := ns) (k := k) (by decide) rfl (by omega))
      refine okQ_cons ?_
      simp (config := {implicitDefEqProofs := false}) only [evSs_nil, nx_nx, nx_rt, evS.eq_1, evS.eq_2, evS.eq_3, evS.eq_4, evS.eq_5, evS.eq_6, evS.eq_7, evS_for, evS.eq_9, evS.eq_10, evS.eq_11, evS.eq_12, evS.eq_13, evS.eq_14, evE, evEs, evO, evC, evI, R.bind_ok, R.bind_exc, R.q_ok, R.q_exc, R.of_some, R.nox_ok, Q.bind_nx, Q.bind_rt, Q.bind_bk, Q.bind_ct, Q.bind_exc, fin_rt, fin_nx, fin_exc, List.getElem?_cons_zero, List.getElem?_cons_succ, List.set_cons_zero, List.set_cons_succ, asgT, asgTs, lstOf, wipeS, srcOf, lstV, if_true, if_false, Bool.false_eq_true, Bool.true_eq_false, Bool.not_true, Bool.not_false, decide_true, decide_false, t_bl, t_int, t_non, t_tup, t_lst, c_lt, c_le, c_gt, c_ge, c_eqi, c_nei, c_eqs, c_nes, c_isN, c_isnN, c_isB, c_isnB, b_add, b_sub, ix_tup, ix_frz, ix_scr, at0, at1, isTys_nil, isTys_cons, ty_int_non, ty_int_bl, ty_int_int, ty_int_str, ty_int_tup, ty_int_lst, ty_int_dic, ty_bool_non, ty_bool_bl, ty_bool_int, ty_bool_str, ty_bool_tup, ty_bool_lst, ty_bool_dic, ty_str_non, ty_str_bl, ty_str_int, ty_str_str, ty_str_tup, ty_str_lst, ty_str_dic, ty_tuple_non, ty_tuple_bl, ty_tuple_int, ty_tuple_str, ty_tuple_tup, ty_tuple_lst, ty_tuple_dic, ty_list_non, ty_list_bl, ty_list_int, ty_list_str, ty_list_tup, ty_list_lst, ty_list_dic, ty_dict_non, ty_dict_bl, ty_dict_int, ty_dict_str, ty_dict_tup, ty_dict_lst, ty_dict_dic, ty_err_exn, ty_own_exn, bi_len_scr, bi_len_tup, bi_len_lst, bi_tuple_lst, bi_tuple_tup, bi_list_lst, bi_list_tup, bi_max, bi_min, mt_append, mt_part, mt_split, mt_splitN, mt_join, sl_tup, sl_lst, seqV, end_raw, Option.bind_some, Option.map_some, chk_nil, List.append_nil, okR_ok, okQ_ok, c_ins, c_nins, Int.cast_ofNat_Int, List.length_cons, List.length_nil, List.cons.injEq, and_self, and_true, true_and, and_false, false_and, Nat.zero_add, not_true_eq_false, not_false_eq_true, Bool.true_and, Bool.and_true, Bool.false_and, Bool.and_false, Bool.true_or, Bool.or_true, Bool.false_or, Bool.or_false, beq_self_eq_true, eq_self, e1, Nat.reduceBEq, Int.reduceBEq, String.reduceBEq, String.reduceEq, Nat.reduceEqDiff, reduceCtorEq, Int.reduceNeg, Int.reduceLT, Int.reduceLE, Int.reduceEq, Int.reduceAdd, Int.reduceSub, Nat.reduceLT, Nat.reduceLeDiff, Nat.reduceAdd, Nat.reduceSub, Nat.reduceEqDiff]
      obtain ⟨_, h2, e2, secs, s, d, rfl, p2, hs, hsl, hs1, hs2, hd1, hd2⟩ := okR_inv (act17 p1)
      refine okQ_cons ?_
      simp (config := {implicitDefEqProofs := false}) only [evSs_nil, nx_nx, nx_rt, evS.eq_1, evS.eq_2, evS.eq_3, evS.eq_4, evS.eq_5, evS.eq_6, evS.eq_7, evS_for, evS.eq_9, evS.eq_10, evS.eq_11, evS.eq_12, evS.eq_13, evS.eq_14, evE, evEs, evO, evC, evI, R.bind_ok, R.bind_exc, R.q_ok, R.q_exc, R.of_some, R.nox_ok, Q.bind_nx, Q.bind_rt, Q.bind_bk, Q.bind_ct, Q.bind_exc, fin_rt, fin_nx, fin_exc, List.getElem?_cons_zero, List.getElem?_cons_succ, List.set_cons_zero, List.set_cons_succ, asgT, asgTs, lstOf, wipeS, srcOf, lstV, if_true, if_false, Bool.false_eq_true, Bool.true_eq_false, Bool.not_true, Bool.not_false, decide_true, decide_false, t_bl, t_int, t_non, t_tup, t_lst, c_lt, c_le, c_gt, c_ge, c_eqi, c_nei, c_eqs, c_nes, c_isN, c_isnN, c_isB, c_isnB, b_add, b_sub, ix_tup, ix_frz, ix_scr, at0, at1, isTys_nil, isTys_cons, ty_int_non, ty_int_bl, ty_int_int, ty_int_str, ty_int_tup, ty_int_lst, ty_int_dic, ty_bool_non, ty_bool_bl, ty_bool_int, ty_bool_str, ty_bool_tup, ty_bool_lst, ty_bool_dic, ty_str_non, ty_str_bl, ty_str_int, ty_str_str, ty_str_tup, ty_str_lst, ty_str_dic, ty_tuple_non, ty_tuple_bl, ty_tuple_int, ty_tuple_str, ty_tuple_tup, ty_tuple_lst, ty_tuple_dic, ty_list_non, ty_list_bl, ty_list_int, ty_list_str, ty_list_tup, ty_list_lst, ty_list_dic, ty_dict_non, ty_dict_bl, ty_dict_int, ty_dict_str, ty_dict_tup, ty_dict_lst, ty_dict_dic, ty_err_exn, ty_own_exn, bi_len_scr, bi_len_tup, bi_len_lst, bi_tuple_lst, bi_tuple_tup, bi_list_lst, bi_list_tup, bi_max, bi_min, mt_append, mt_part, mt_split, mt_splitN, mt_join, sl_tup, sl_lst, seqV, end_raw, Option.bind_some, Option.map_some, chk_nil, List.append_nil, okR_ok, okQ_ok, c_ins, c_nins, Int.cast_ofNat_Int, List.length_cons, List.length_nil, List.cons.injEq, and_self, and_true, true_and, and_false, false_and, Nat.zero_add, not_true_eq_false, not_false_eq_true, Bool.true_and, Bool.and_true, Bool.false_and, Bool.and_false, Bool.true_or, Bool.or_true, Bool.false_or, Bool.or_false, beq_self_eq_true, eq_self, e2, Nat.reduceBEq, Int.reduceBEq, String.reduceBEq, String.reduceEq, Nat.reduceEqDiff, reduceCtorEq, Int.reduceNeg, Int.reduceLT, Int.reduceLE, Int.reduceEq, Int.reduceAdd, Int.reduceSub, Nat.reduceLT, Nat.reduceLeDiff, Nat.reduceAdd, Nat.reduceSub, Nat.reduceEqDiff]
      have hi0 : h.length < h1.length := p1.1
      have gs : GB 4 30000 (.str s) := (short_gb ⟨s, rfl, hs1, hs2⟩).le (by decide) (by decide)
      have gd : GB 4 30000 (.int d) := (int_gb (by omega)).le (by decide) (by decide)
      have vact0 : VG h1.length secs (.tup [.str s, .int d, .ref h1.length]) := vg_ref hs hsl gs gd
      have gj : ∀ t : Hs, (h1 ++ [Nd.lst secs] ++ t)[h1.length]? = some (.lst secs) := fun t => by
        rw [List.getElem?_append_left (by simp)]
        exact get_last
      let J : Hs → Prop := fun h' => ∃ t, PoolAt h.length (h1 ++ [Nd.lst secs] ++ t) h'
      refine okQ_cons ?_
      simp (config := {implicitDefEqProofs := false}) only [evSs_nil, nx_nx, nx_rt, evS.eq_1, evS.eq_2, evS.eq_3, evS.eq_4, evS.eq_5, evS.eq_6, evS.eq_7, evS_for, evS.eq_9, evS.eq_10, evS.eq_11, evS.eq_12, evS.eq_13, evS.eq_14, evE, evEs, evO, evC, evI, R.bind_ok, R.bind_exc, R.q_ok, R.q_exc, R.of_some, R.nox_ok, Q.bind_nx, Q.bind_rt, Q.bind_bk, Q.bind_ct, Q.bind_exc, fin_rt, fin_nx, fin_exc, List.getElem?_cons_zero, List.getElem?_cons_succ, List.set_cons_zero, List.set_cons_succ, asgT, asgTs, lstOf, wipeS, srcOf, lstV, if_true, if_false, Bool.false_eq_true, Bool.true_eq_false, Bool.not_true, Bool.not_false, decide_true, decide_false, t_bl, t_int, t_non, t_tup, t_lst, c_lt, c_le, c_gt, c_ge, c_eqi, c_nei, c_eqs, c_nes, c_isN, c_isnN, c_isB, c_isnB, b_add, b_sub, ix_tup, ix_frz, ix_scr, at0, at1, isTys_nil, isTys_cons, ty_int_non, ty_int_bl, ty_int_int, ty_int_str, ty_int_tup, ty_int_lst, ty_int_dic, ty_bool_non, ty_bool_bl, ty_bool_int, ty_bool_str, ty_bool_tup, ty_bool_lst, ty_bool_dic, ty_str_non, ty_str_bl, ty_str_int, ty_str_str, ty_str_tup, ty_str_lst, ty_str_dic, ty_tuple_non, ty_tuple_bl, ty_tuple_int, ty_tuple_str, ty_tuple_tup, ty_tuple_lst, ty_tuple_dic, ty_list_non, ty_list_bl, ty_list_int, ty_list_str, ty_list_tup, ty_list_lst, ty_list_dic, ty_dict_non, ty_dict_bl, ty_dict_int, ty_dict_str, ty_dict_tup, ty_dict_lst, ty_dict_dic, ty_err_exn, ty_own_exn, bi_len_scr, bi_len_tup, bi_len_lst, bi_tuple_lst, bi_tuple_tup, bi_list_lst, bi_list_tup, bi_max, bi_min, mt_append, mt_part, mt_split, mt_splitN, mt_join, sl_tup, sl_lst, seqV, end_raw, Option.bind_some, Option.map_some, chk_nil, List.append_nil, okR_ok, okQ_ok, c_ins, c_nins, Int.cast_ofNat_Int, List.length_cons, List.length_nil, List.cons.injEq, and_self, and_true, true_and, and_false, false_and, Nat.zero_add, not_true_eq_false, not_false_eq_true, Bool.true_and, Bool.and_true, Bool.false_and, Bool.and_false, Bool.true_or, Bool.or_true, Bool.false_or, Bool.or_false, beq_self_eq_true, eq_self, length_range, show (Int.toNat 10) < lim by simp [lim], Nat.reduceBEq, Int.reduceBEq, String.reduceBEq, String.reduceEq, Nat.reduceEqDiff, reduceCtorEq, Int.reduceNeg, Int.reduceLT, Int.reduceLE, Int.reduceEq, Int.reduceAdd, Int.reduceSub, Nat.reduceLT, Nat.reduceLeDiff, Nat.reduceAdd, Nat.reduceSub, Nat.reduceEqDiff]
      repeat (first | with_reducible refine okQ_bind ?_ | with_reducible refine okR_q ?_ | with_reducible refine okR_bind ?_ | with_reducible refine okR_nox ?_)
      have hne : h1.length ≠ h.length := by omega
      refine okR_mono (mapR_one J (fun _ y => VG h1.length secs y) (fun _ _ => rfl) ?_ ⟨[], by rw [List.append_nil]; exact p2⟩) ?_
      · rintro x _ h3 ⟨t, p3⟩
        obtain ⟨v, h4, e4, t', p4, vg⟩ := okR_inv (alt18 p3 (gj t) hne hs hsl hs1 hs2 ⟨hd1, hd2⟩)
        simp (config := {implicitDefEqProofs := false}) only [evSs_nil, nx_nx, nx_rt, evS.eq_1, evS.eq_2, evS.eq_3, evS.eq_4, evS.eq_5, evS.eq_6, evS.eq_7, evS_for, evS.eq_9, evS.eq_10, evS.eq_11, evS.eq_12, evS.eq_13, evS.eq_14, evE, evEs, evO, evC, evI, R.bind_ok, R.bind_exc, R.q_ok, R.q_exc, R.of_some, R.nox_ok, Q.bind_nx, Q.bind_rt, Q.bind_bk, Q.bind_ct, Q.bind_exc, fin_rt, fin_nx, fin_exc, List.getElem?_cons_zero, List.getElem?_cons_succ, List.set_cons_zero, List.set_cons_succ, asgT, asgTs, lstOf, wipeS, srcOf, lstV, if_true, if_false, Bool.false_eq_true, Bool.true_eq_false, Bool.not_true, Bool.not_false, decide_true, decide_false, t_bl, t_int, t_non, t_tup, t_lst, c_lt, c_le, c_gt, c_ge, c_eqi, c_nei, c_eqs, c_nes, c_isN, c_isnN, c_isB, c_isnB, b_add, b_sub, ix_tup, ix_frz, ix_scr, at0, at1, isTys_nil, isTys_cons, ty_int_non, ty_int_bl, ty_int_int, ty_int_str, ty_int_tup, ty_int_lst, ty_int_dic, ty_bool_non, ty_bool_bl, ty_bool_int, ty_bool_str, ty_bool_tup, ty_bool_lst, ty_bool_dic, ty_str_non, ty_str_bl, ty_str_int, ty_str_str, ty_str_tup, ty_str_lst, ty_str_dic, ty_tuple_non, ty_tuple_bl, ty_tuple_int, ty_tuple_str, ty_tuple_tup, ty_tuple_lst, ty_tuple_dic, ty_list_non, ty_list_bl, ty_list_int, ty_list_str, ty_list_tup, ty_list_lst, ty_list_dic, ty_dict_non, ty_dict_bl, ty_dict_int, ty_dict_str, ty_dict_tup, ty_dict_lst, ty_dict_dic, ty_err_exn, ty_own_exn, bi_len_scr, bi_len_tup, bi_len_lst, bi_tuple_lst, bi_tuple_tup, bi_list_lst, bi_list_tup, bi_max, bi_min, mt_append, mt_part, mt_split, mt_splitN, mt_join, sl_tup, sl_lst, seqV, end_raw, Option.bind_some, Option.map_some, chk_nil, List.append_nil, okR_ok, okQ_ok, c_ins, c_nins, Int.cast_ofNat_Int, List.length_cons, List.length_nil, List.cons.injEq, and_self, and_true, true_and, and_false, false_and, Nat.zero_add, not_true_eq_false, not_false_eq_true, Bool.true_and, Bool.and_true, Bool.false_and, Bool.and_false, Bool.true_or, Bool.or_true, Bool.false_or, Bool.or_false, beq_self_eq_true, eq_self, e4, Nat.reduceBEq, Int.reduceBEq, String.reduceBEq, String.reduceEq, Nat.reduceEqDiff, reduceCtorEq, Int.reduceNeg, Int.reduceLT, Int.reduceLE, Int.reduceEq, Int.reduceAdd, Int.reduceSub, Nat.reduceLT, Nat.reduceLeDiff, Nat.reduceAdd, Nat.reduceSub, Nat.reduceEqDiff]
        exact ⟨⟨t ++ t', by rw [← List.append_assoc]; exact p4⟩, _, rfl, vg⟩
      rintro ys h3 ⟨⟨t, p3⟩, a3⟩
      have hyl : ys.length = 10 := by rw [← a3.length, length_range]; rfl
      have hvs : ∀ v ∈ [D.tup [.str s, .int d, .ref h1.length]] ++ ys, VG h1.length secs v := fun v hv => by
        rcases List.mem_append.mp hv with hv | hv
        · rw [List.mem_singleton.mp hv]
          exact vact0
        · obtain ⟨_, _, g⟩ := a3.right v hv
          exact g
      have gj3 : h3[h1.length]? = some (.lst secs) := by rw [p3.other hne]; exact gj t
      simp (config := {implicitDefEqProofs := false}) only [evSs_nil, nx_nx, nx_rt, evS.eq_1, evS.eq_2, evS.eq_3, evS.eq_4, evS.eq_5, evS.eq_6, evS.eq_7, evS_for, evS.eq_9, evS.eq_10, evS.eq_11, evS.eq_12, evS.eq_13, evS.eq_14, evE, evEs, evO, evC, evI, R.bind_ok, R.bind_exc, R.q_ok, R.q_exc, R.of_some, R.nox_ok, Q.bind_nx, Q.bind_rt, Q.bind_bk, Q.bind_ct, Q.bind_exc, fin_rt, fin_nx, fin_exc, List.getElem?_cons_zero, List.getElem?_cons_succ, List.set_cons_zero, List.set_cons_succ, asgT, asgTs, lstOf, wipeS, srcOf, lstV, if_true, if_false, Bool.false_eq_true, Bool.true_eq_false, Bool.not_true, Bool.not_false, decide_true, decide_false, t_bl, t_int, t_non, t_tup, t_lst, c_lt, c_le, c_gt, c_ge, c_eqi, c_nei, c_eqs, c_nes, c_isN, c_isnN, c_isB, c_isnB, b_add, b_sub, ix_tup, ix_frz, ix_scr, at0, at1, isTys_nil, isTys_cons, ty_int_non, ty_int_bl, ty_int_int, ty_int_str, ty_int_tup, ty_int_lst, ty_int_dic, ty_bool_non, ty_bool_bl, ty_bool_int, ty_bool_str, ty_bool_tup, ty_bool_lst, ty_bool_dic, ty_str_non, ty_str_bl, ty_str_int, ty_str_str, ty_str_tup, ty_str_lst, ty_str_dic, ty_tuple_non, ty_tuple_bl, ty_tuple_int, ty_tuple_str, ty_tuple_tup, ty_tuple_lst, ty_tuple_dic, ty_list_non, ty_list_bl, ty_list_int, ty_list_str, ty_list_tup, ty_list_lst, ty_list_dic, ty_dict_non, ty_dict_bl, ty_dict_int, ty_dict_str, ty_dict_tup, ty_dict_lst, ty_dict_dic, ty_err_exn, ty_own_exn, bi_len_scr, bi_len_tup, bi_len_lst, bi_tuple_lst, bi_tuple_tup, bi_list_lst, bi_list_tup, bi_max, bi_min, mt_append, mt_part, mt_split, mt_splitN, mt_join, sl_tup, sl_lst, seqV, end_raw, Option.bind_some, Option.map_some, chk_nil, List.append_nil, okR_ok, okQ_ok, c_ins, c_nins, Int.cast_ofNat_Int, List.length_cons, List.length_nil, List.cons.injEq, and_self, and_true, true_and, and_false, false_and, Nat.zero_add, not_true_eq_false, not_false_eq_true, Bool.true_and, Bool.and_true, Bool.false_and, Bool.and_false, Bool.true_or, Bool.or_true, Bool.false_or, Bool.or_false, beq_self_eq_true, eq_self, b_addl (show [D.tup [.str s, .int d, .ref h1.length]].length + ys.length ≤ lim by rw [hyl]; simp [lim]), Nat.reduceBEq, Int.reduceBEq, String.reduceBEq, String.reduceEq, Nat.reduceEqDiff, reduceCtorEq, Int.reduceNeg, Int.reduceLT, Int.reduceLE, Int.reduceEq, Int.reduceAdd, Int.reduceSub, Nat.reduceLT, Nat.reduceLeDiff, Nat.reduceAdd, Nat.reduceSub, Nat.reduceEqDiff]
      let I : Sl → Hs → Prop := fun sl h' => h' = h3 ∧ ∃ l, sl = some (.scr ns) :: l ∧ l.length = 5
      refine okQ_mono (forL_ok I (fun _ _ _ => rfl) ?_ ⟨rfl, _, rfl, rfl⟩) ?_
      · rintro x hx sl h' ⟨rfl, l, rfl, hl⟩
        match l, hl with
        | [a1, a2, a3, a4, a5], _ => ?_
        obtain ⟨hok, hrp⟩ := hvs x hx _ gj3
        obtain ⟨g1, g2, g3, _⟩ := due_rg (act_due h' x)
        obtain ⟨t2, e5⟩ := lact (m := 59) (by decide) hok
        have rep : ∀ nd, biD .repr nd [actDue h' x] h' = .ok (.str (rpS (actDue h' x))) h' := fun nd => repr_ok (deep_rG g1 (by decide)) g1 g2
        simp (config := {implicitDefEqProofs := false}) only [evSs_nil, nx_nx, nx_rt, evS.eq_1, evS.eq_2, evS.eq_3, evS.eq_4, evS.eq_5, evS.eq_6, evS.eq_7, evS_for, evS.eq_9, evS.eq_10, evS.eq_11, evS.eq_12, evS.eq_13, evS.eq_14, evE, evEs, evO, evC, evI, R.bind_ok, R.bind_exc, R.q_ok, R.q_exc, R.of_some, R.nox_ok, Q.bind_nx, Q.bind_rt, Q.bind_bk, Q.bind_ct, Q.bind_exc, fin_rt, fin_nx, fin_exc, List.getElem?_cons_zero, List.getElem?_cons_succ, List.set_cons_zero, List.set_cons_succ, asgT, asgTs, lstOf, wipeS, srcOf, lstV, if_true, if_false, Bool.false_eq_true, Bool.true_eq_false, Bool.not_true, Bool.not_false, decide_true, decide_false, t_bl, t_int, t_non, t_tup, t_lst, c_lt, c_le, c_gt, c_ge, c_eqi, c_nei, c_eqs, c_nes, c_isN, c_isnN, c_isB, c_isnB, b_add, b_sub, ix_tup, ix_frz, ix_scr, at0, at1, isTys_nil, isTys_cons, ty_int_non, ty_int_bl, ty_int_int, ty_int_str, ty_int_tup, ty_int_lst, ty_int_dic, ty_bool_non, ty_bool_bl, ty_bool_int, ty_bool_str, ty_bool_tup, ty_bool_lst, ty_bool_dic, ty_str_non, ty_str_bl, ty_str_int, ty_str_str, ty_str_tup, ty_str_lst, ty_str_dic, ty_tuple_non, ty_tuple_bl, ty_tuple_int, ty_tuple_str, ty_tuple_tup, ty_tuple_lst, ty_tuple_dic, ty_list_non, ty_list_bl, ty_list_int, ty_list_str, ty_list_tup, ty_list_lst, ty_list_dic, ty_dict_non, ty_dict_bl, ty_dict_int, ty_dict_str, ty_dict_tup, ty_dict_lst, ty_dict_dic, ty_err_exn, ty_own_exn, bi_len_scr, bi_len_tup, bi_len_lst, bi_tuple_lst, bi_tuple_tup, bi_list_lst, bi_list_tup, bi_max, bi_min, mt_append, mt_part, mt_split, mt_splitN, mt_join, sl_tup, sl_lst, seqV, end_raw, Option.bind_some, Option.map_some, chk_nil, List.append_nil, okR_ok, okQ_ok, c_ins, c_nins, Int.cast_ofNat_Int, List.length_cons, List.length_nil, List.cons.injEq, and_self, and_true, true_and, and_false, false_and, Nat.zero_add, not_true_eq_false, not_false_eq_true, Bool.true_and, Bool.and_true, Bool.false_and, Bool.and_false, Bool.true_or, Bool.or_true, Bool.false_or, Bool.or_false, beq_self_eq_true, eq_self, evSs, forF, res_ok (m := 59) (by decide) hok hrp, end_pure0 g3, e5, end_pure g3, rep, Nat.reduceBEq, Int.reduceBEq, String.reduceBEq, String.reduceEq, Nat.reduceEqDiff, reduceCtorEq, Int.reduceNeg, Int.reduceLT, Int.reduceLE, Int.reduceEq, Int.reduceAdd, Int.reduceSub, Nat.reduceLT, Nat.reduceLeDiff, Nat.reduceAdd, Nat.reduceSub, Nat.reduceEqDiff]
        exact ⟨.inl trivial, rfl, _, rfl, rfl⟩
      rintro F sl h' ⟨rfl, rfl, l, rfl, hl⟩
      simp (config := {implicitDefEqProofs := false}) only [evSs_nil, nx_nx, nx_rt, evS.eq_1, evS.eq_2, evS.eq_3, evS.eq_4, evS.eq_5, evS.eq_6, evS.eq_7, evS_for, evS.eq_9, evS.eq_10, evS.eq_11, evS.eq_12, evS.eq_13, evS.eq_14, evE, evEs, evO, evC, evI, R.bind_ok, R.bind_exc, R.q_ok, R.q_exc, R.of_some, R.nox_ok, Q.bind_nx, Q.bind_rt, Q.bind_bk, Q.bind_ct, Q.bind_exc, fin_rt, fin_nx, fin_exc, List.getElem?_cons_zero, List.getElem?_cons_succ, List.set_cons_zero, List.set_cons_succ, asgT, asgTs, lstOf, wipeS, srcOf, lstV, if_true, if_false, Bool.false_eq_true, Bool.true_eq_false, Bool.not_true, Bool.not_false, decide_true, decide_false, t_bl, t_int, t_non, t_tup, t_lst, c_lt, c_le, c_gt, c_ge, c_eqi, c_nei, c_eqs, c_nes, c_isN, c_isnN, c_isB, c_isnB, b_add, b_sub, ix_tup, ix_frz, ix_scr, at0, at1, isTys_nil, isTys_cons, ty_int_non, ty_int_bl, ty_int_int, ty_int_str, ty_int_tup, ty_int_lst, ty_int_dic, ty_bool_non, ty_bool_bl, ty_bool_int, ty_bool_str, ty_bool_tup, ty_bool_lst, ty_bool_dic, ty_str_non, ty_str_bl, ty_str_int, ty_str_str, ty_str_tup, ty_str_lst, ty_str_dic, ty_tuple_non, ty_tuple_bl, ty_tuple_int, ty_tuple_str, ty_tuple_tup, ty_tuple_lst, ty_tuple_dic, ty_list_non, ty_list_bl, ty_list_int, ty_list_str, ty_list_tup, ty_list_lst, ty_list_dic, ty_dict_non, ty_dict_bl, ty_dict_int, ty_dict_str, ty_dict_tup, ty_dict_lst, ty_dict_dic, ty_err_exn, ty_own_exn, bi_len_scr, bi_len_tup, bi_len_lst, bi_tuple_lst, bi_tuple_tup, bi_list_lst, bi_list_tup, bi_max, bi_min, mt_append, mt_part, mt_split, mt_splitN, mt_join, sl_tup, sl_lst, seqV, end_raw, Option.bind_some, Option.map_some, chk_nil, List.append_nil, okR_ok, okQ_ok, c_ins, c_nins, Int.cast_ofNat_Int, List.length_cons, List.length_nil, List.cons.injEq, and_self, and_true, true_and, and_false, false_and, Nat.zero_add, not_true_eq_false, not_false_eq_true, Bool.true_and, Bool.and_true, Bool.false_and, Bool.and_false, Bool.true_or, Bool.or_true, Bool.false_or, Bool.or_false, beq_self_eq_true, eq_self, Nat.reduceBEq, Int.reduceBEq, String.reduceBEq, String.reduceEq, Nat.reduceEqDiff, reduceCtorEq, Int.reduceNeg, Int.reduceLT, Int.reduceLE, Int.reduceEq, Int.reduceAdd, Int.reduceSub, Nat.reduceLT, Nat.reduceLeDiff, Nat.reduceAdd, Nat.reduceSub, Nat.reduceEqDiff]
      exact ⟨.inl trivial, l, rfl, hl⟩
  obtain ⟨v, h, e, rfl⟩ := okR_inv q
  exact ⟨h, e⟩
end KX
open PySem PySem.W PySem.Calls PyProof.Rows
theorem PySem.Challenge.cw_amendedwords_k04_validate_act_holds : PySem.Challenge.rw_amendedwords_k04_validate_act.Holds := by
  w_on; o_law
  refine HandSHeadRun.head_any (r := OpenLaw.row PySem.Challenge.rw_amendedwords_k04_validate_act) (q := view (OpenLaw.row PySem.Challenge.rw_amendedwords_k04_validate_act).prog [35]) (H := KX.hk) (ob := KX.ob) (M := 4000) (loose := KX.loose) (d := HandSHeadRun.topDef (OpenLaw.row PySem.Challenge.rw_amendedwords_k04_validate_act).prog 35) (kwd := []) KX.ob_eq
    (by kernel_rfl) (fun s => by kernel_rfl) KX.run (by kernel_rfl) (by kernel_rfl) (by kernel_rfl) (by rfl) (by first | assumption | decide +kernel) (by decide +kernel) ⟨rfl, rfl, rfl, rfl, rfl, by decide +kernel⟩ ?hw ?hc
  case hw => w_witness2
  case hc =>
    refine L2.MP.walk_mp (l := PySem.Challenge.rw_amendedwords_k04_validate_act) (n := 63) (k := 63) (x := "_law_script") rfl (by decide) (by kernel_rfl) ⟨rfl, by decide, by decide⟩ (ec := fun K => L2.MP.ecOf KX.cf.exs K) (fl := L2.MP.flG KX.gl) (g := L2.MP.callN KX.gl KX.Fs 60 19) KX.law_true ?F
    intro w mg fa h Y G hmg0
    obtain ⟨K, XK, c, hx⟩ := Y
    have hmg : mg ("law" : PySem.Str) = some (.ref fa) := by
      have e : (HandSHeadRun.topDef (OpenLaw.row PySem.Challenge.rw_amendedwords_k04_validate_act).prog 35).name = ("law" : PySem.Str) := by kernel_rfl
      rw [← e]
      exact hmg0
    obtain ⟨fd, hb, hF⟩ := KX.facts (P := (PySem.Challenge.rw_amendedwords_k04_validate_act).prog) (w := w) XK G hmg c hx
    exact ⟨K, fd, XK, hb, hF⟩
