import PyProof.Rows.All
import Wide.All
import OpenK.AllK
import Wide.FinOn
import HandS.ForMost
import HandS.ForExc
import HandS.TryMany
import HandS.ExcInit
import HandS.ExcIs
import HandS.Deep
import HandS.TupAny
import HandS.IsInst
import HandS.Defaults
import HandS.More
import HandS.Flow
import HandS.FStr
import HandS.StrMore
import HandS.WordsExc
import HandS.Conv
import HandS.TupLe
import HandS.TupMul
import HandS.Codes
import HandS.RaiseMore
import HandS.CallSlots
import HandS.Ends
import PyProof.Rows.ReprR
import KE.IntTextLaws
import HandS.Flt
import HandS.Replace
import KE.KExcIs
import HandS.ExcField
import HandS.Iter
import PyProof.ZipIter
import PyProof.CallType
import PyProof.Rows.CallKwBuiltin
import HandS.Zip
import PyProof.EnumMake
import KE.KUnpackStar
import HandS.TryOnly
import HandS.NoneIn
import HandS.Style
import HandS.Head0
import HandS.Head1
import HandS.Head2
import HandS.HeadEnd
import HandS.HeadHook1
import HandS.HeadHook2
import HandS.HeadHook3
import PyProof.ReprLen
import PyProof.StrLawsRepr
import KE.KIntText
import KE.KStateDown
import Lean
import HandS.Base
import HandS.Call
import HandS.Words
import PySem.Challenge.RW_amendedwords_k74_edit_tables
set_option Elab.async false
set_option linter.all false
set_option maxRecDepth 100000
set_option maxHeartbeats 0
namespace L2.MP
open PySem
inductive D where
  | non | bl (b : Bool) | int (i : Int) | str (s : List Nat)
  | tup (xs : List D) | lst (xs : List D)
  | ref (i : Nat)
  | exn (c : Nat) (fs : List D)
  | dic (ks vs : List D)
  | scr (ns : List Int)
  | kup (ks : List D)
  deriving Inhabited, Repr
mutual
def D.beq : D → D → Bool
  | .non, .non => true
  | .bl a, .bl b => a == b
  | .int a, .int b => a == b
  | .str a, .str b => a == b
  | .tup a, .tup b => D.beqs a b
  | .lst a, .lst b => D.beqs a b
  | .ref a, .ref b => a == b
  | .exn a x, .exn b y => a == b && D.beqs x y
  | .dic a x, .dic b y => D.beqs a b && D.beqs x y
  | .scr a, .scr b => a == b
  | .kup a, .kup b => D.beqs a b
  | _, _ => false
def D.beqs : List D → List D → Bool
  | [], [] => true
  | x :: xs, y :: ys => D.beq x y && D.beqs xs ys
  | _, _ => false
end
mutual
theorem D.beq_eq : ∀ {a b : D}, D.beq a b = true → a = b
  | .non, b, h => by cases b <;> simp [D.beq] at h ⊢
  | .bl a, b, h => by cases b <;> simp [D.beq] at h ⊢; exact h
  | .int a, b, h => by cases b <;> simp [D.beq] at h ⊢; exact h
  | .str a, b, h => by cases b <;> simp [D.beq] at h ⊢; exact h
  | .tup a, b, h => by cases b <;> simp [D.beq] at h ⊢; exact D.beqs_eq h
  | .lst a, b, h => by cases b <;> simp [D.beq] at h ⊢; exact D.beqs_eq h
  | .ref a, b, h => by cases b <;> simp [D.beq] at h ⊢; exact h
  | .exn a x, b, h => by
    cases b <;> simp [D.beq] at h ⊢
    exact ⟨h.1, D.beqs_eq h.2⟩
  | .dic a x, b, h => by
    cases b <;> simp [D.beq] at h ⊢
    exact ⟨D.beqs_eq h.1, D.beqs_eq h.2⟩
  | .scr a, b, h => by cases b <;> simp [D.beq] at h ⊢; exact h
  | .kup a, b, h => by cases b <;> simp [D.beq] at h ⊢; exact D.beqs_eq h
theorem D.beqs_eq : ∀ {a b : List D}, D.beqs a b = true → a = b
  | [], b, h => by cases b <;> simp [D.beqs] at h ⊢
  | x :: xs, b, h => by
    cases b <;> simp [D.beqs] at h ⊢
    exact ⟨D.beq_eq h.1, D.beqs_eq h.2⟩
end
mutual
theorem D.beq_refl : ∀ a : D, D.beq a a = true
  | .non => by simp [D.beq]
  | .bl a => by simp [D.beq]
  | .int a => by simp [D.beq]
  | .str a => by simp [D.beq]
  | .tup a => by simp [D.beq, D.beqs_refl a]
  | .lst a => by simp [D.beq, D.beqs_refl a]
  | .ref a => by simp [D.beq]
  | .exn a x => by simp [D.beq, D.beqs_refl x]
  | .dic a x => by simp [D.beq, D.beqs_refl a, D.beqs_refl x]
  | .scr a => by simp [D.beq]
  | .kup a => by simp [D.beq, D.beqs_refl a]
theorem D.beqs_refl : ∀ a : List D, D.beqs a a = true
  | [] => by simp [D.beqs]
  | x :: xs => by simp [D.beqs, D.beq_refl x, D.beqs_refl xs]
end
instance : DecidableEq D := fun a b =>
  if h : D.beq a b = true then .isTrue (D.beq_eq h) else .isFalse fun e => h (e ▸ D.beq_refl a)
/-- a node: a thing that may change -/
inductive Nd where
  | lst (xs : List D)
  | dic (t : Bool) (ks vs : List D)
  | ins (c : Nat) (fs : List (Nat × D))
  deriving DecidableEq, Inhabited, Repr
abbrev Hs := List Nd
abbrev Sl := List (Option D)
inductive R (α : Type) where
  | ok (a : α) (h : Hs)
  | exc (c : Nat) (fs : List D) (h : Hs)
  | bad
  deriving Repr
def R.bind {α β : Type} (r : R α) (f : α → Hs → R β) : R β := match r with
  | .ok a h => f a h
  | .exc c fs h => .exc c fs h
  | .bad => .bad
/-- no exception comes out -/
def R.nox {α : Type} (r : R α) : R α := match r with
  | .ok a h => .ok a h
  | _ => .bad
/-- the heap put back -/
def R.at {α : Type} (h : Hs) : R α → R α
  | .ok a _ => .ok a h
  | .exc c fs _ => .exc c fs h
  | .bad => .bad
def R.of {α : Type} (o : Option α) (h : Hs) : R α := match o with
  | some a => .ok a h
  | none => .bad
def lim : Nat := 1000000
/-- signs -/
def okS (s : List Nat) : Prop := ∀ c ∈ s, c < 1114112
def okB (s : List Nat) : Bool := s.all fun c => decide (c < 1114112)
theorem okB_ok {s : List Nat} (h : okB s = true) : okS s := fun c hc => of_decide_eq_true (List.all_eq_true.mp h c hc)
def seqN : Nd → Option (List D)
  | .lst xs => some xs
  | _ => none
/-- a list -/
def lstV (h : Hs) : D → Option (List D)
  | .lst xs => some xs
  | .ref i => (h[i]?).bind seqN
  | _ => none
/-- a list or a tuple -/
def seqV (h : Hs) : D → Option (List D)
  | .lst xs => some xs
  | .tup xs => some xs
  | .ref i => (h[i]?).bind seqN
  | _ => none
/-- a dict that may change, keys ints and texts: its keys, its values -/
def dicG : Nd → Option (List D × List D)
  | .dic false ks vs => some (ks, vs)
  | _ => none
def dicN (h : Hs) : D → Option (List D × List D)
  | .ref i => (h[i]?).bind dicG
  | _ => none
/-- the same, keys tuples of ints and texts -/
def dicH : Nd → Option (List D × List D)
  | .dic true ks vs => some (ks, vs)
  | _ => none
def dicT (h : Hs) : D → Option (List D × List D)
  | .ref i => (h[i]?).bind dicH
  | _ => none
def keyOk : D → Bool
  | .int _ => true
  | .str _ => true
  | _ => false
def getK (k : D) : List D → List D → Option D
  | a :: ks, v :: vs => if a = k then some v else getK k ks vs
  | _, _ => none
def setK (k v : D) : List D → List D → List D
  | a :: ks, w :: vs => (if a = k then v else w) :: setK k v ks vs
  | _, vs => vs
def putKD (k v : D) (ks vs : List D) : List D × List D := if k ∈ ks then (ks, setK k v ks vs) else (ks ++ [k], vs ++ [v])
/-- a dict of the module, keys texts -/
def getS (k : List Nat) : List (List Nat) → List D → Option D
  | a :: ks, v :: vs => if a = k then some v else getS k ks vs
  | _, _ => none
def gixD (gds : List (List (List Nat) × List D)) (i : Nat) : D → Option D
  | .str s => (gds[i]?).bind fun p => getS s p.1 p.2
  | _ => none
def ginD (gds : List (List (List Nat) × List D)) (i : Nat) : D → Option Bool
  | .str s => (gds[i]?).map fun p => decide (s ∈ p.1)
  | _ => none
def truD (h : Hs) : D → Option Bool
  | .non => some false
  | .bl b => some b
  | .int i => some (decide (i ≠ 0))
  | .str s => if s.length ≤ lim then some (!s.isEmpty) else none
  | .tup xs => some (!xs.isEmpty)
  | .lst xs => some (!xs.isEmpty)
  | .ref i => ((h[i]?).bind seqN).map fun xs => !xs.isEmpty
  | .exn _ _ => none
  | .dic ks _ => some (!ks.isEmpty)
  | .scr _ => none
  | .kup _ => none
/-- every reference read: n deep; w: dicts too -/
def mapO {α β : Type} (f : α → Option β) : List α → Option (List β)
  | [] => some []
  | x :: xs => (f x).bind fun y => (mapO f xs).bind fun ys => some (y :: ys)
def deep (w : Bool) (h : Hs) : Nat → D → Option D
  | 0, _ => none
  | n + 1, .tup xs => (mapO (deep w h n) xs).map .tup
  | n + 1, .lst xs => (mapO (deep w h n) xs).map .lst
  | n + 1, .ref i => ((h[i]?).bind seqN).bind fun xs => (mapO (deep w h n) xs).map .lst
  | _ + 1, .exn _ _ => none
  | _ + 1, .scr _ => none
  | _ + 1, .kup _ => none
  | n + 1, .dic ks vs => if w then (mapO (deep w h n) ks).bind fun ks => (mapO (deep w h n) vs).map (.dic ks) else none
  | _ + 1, d => some d
mutual
/-- == of plain values -/
def eqT : D → D → Bool
  | .non, .non => true
  | .bl a, .bl b => a == b
  | .bl a, .int j => (if a then 1 else 0) == j
  | .int i, .bl b => i == (if b then 1 else 0)
  | .int a, .int b => a == b
  | .str a, .str b => a == b
  | .tup a, .tup b => eqTs a b
  | .lst a, .lst b => eqTs a b
  | _, _ => false
def eqTs : List D → List D → Bool
  | [], [] => true
  | x :: xs, y :: ys => eqT x y && eqTs xs ys
  | _, _ => false
end
def eqD (h : Hs) (x y : D) : Option Bool := (deep false h 40 x).bind fun a => (deep false h 40 y).bind fun b => some (eqT a b)
mutual
def toPD : D → Option PyData
  | .non => some .none
  | .bl b => some (.bool b)
  | .int i => some (.int i)
  | .str s => some (.str ⟨s.toArray⟩)
  | .tup xs => (toPDs xs).map .tuple
  | .lst xs => (toPDs xs).map .list
  | .ref _ => none
  | .exn _ _ => none
  | .scr _ => none
  | .kup _ => none
  | .dic ks vs => (toPDs ks).bind fun ks => (toPDs vs).map fun vs => .dict (ks.zip vs)
def toPDs : List D → Option (List PyData)
  | [] => some []
  | x :: xs => (toPD x).bind fun d => (toPDs xs).bind fun ds => some (d :: ds)
end
def strS (s : String) : List Nat := (Str.ofString s).cps.toList
def intS (i : Int) : List Nat := strS (toString i)
def binD (op : Operator) (x y : D) (h : Hs) : R D := match op, x, y with
  | .Add, .int i, .int j => .ok (.int (i + j)) h
  | .Add, .str s, .str t => if s.length + t.length ≤ lim then .ok (.str (s ++ t)) h else .bad
  | .Add, .tup s, .tup t => if s.length + t.length ≤ lim then .ok (.tup (s ++ t)) h else .bad
  | .Add, a, b => (R.of (lstV h a) h).bind fun s h => (R.of (lstV h b) h).bind fun t h => if s.length + t.length ≤ lim then .ok (.lst (s ++ t)) h else .bad
  | .Sub, .int i, .int j => .ok (.int (i - j)) h
  | .Mult, .int i, .int j => if (-(2 ^ 64) < i ∧ i < 2 ^ 64) ∨ (-(2 ^ 64) < j ∧ j < 2 ^ 64) then .ok (.int (i * j)) h else .bad
  | .Mult, .str s, .int j => if 0 ≤ j ∧ j < 1000 ∧ s.length * j.toNat ≤ lim then .ok (.str (List.replicate j.toNat s).flatten) h else .bad
  | .Mult, .tup s, .int j => if 2 ≤ j ∧ j ≤ 1000 ∧ s ≠ [] ∧ s.length ≤ 1000 then .ok (.tup (List.replicate j.toNat s).flatten) h else .bad
  | .Mult, a, .int j => (R.of (lstV h a) h).bind fun s h => if 0 ≤ j ∧ j < 1000 ∧ s.length * j.toNat ≤ lim then .ok (.lst (List.replicate j.toNat s).flatten) h else .bad
  | .FloorDiv, .int i, .int j => if 0 < j ∧ j < 1073741824 then .ok (.int (i / j)) h else .bad
  | .Mod, .int i, .int j => if 0 < j then .ok (.int (i % j)) h else .bad
  | .Pow, .int i, .int j => if 0 ≤ j ∧ j ≤ 1000 ∧ i.natAbs < 2 ^ 64 then .ok (.int (i ^ j.toNat)) h else .bad
  | .LShift, .int i, .int j => if 0 ≤ j ∧ j ≤ 1000 ∧ i.natAbs < 2 ^ 64 then .ok (.int (i * 2 ^ j.toNat)) h else .bad
  | .RShift, .int i, .int j => if 0 ≤ j then .ok (.int (i / 2 ^ j.toNat)) h else .bad
  | .BitAnd, .int i, .int j => .ok (.int (Builtin.bitAnd i j)) h
  | _, _, _ => .bad
def inD (h : Hs) (x y : D) : Option Bool := match y with
  | .str s => (match x with
    | .str [c] => some (decide (c ∈ s))
    | _ => none)
  | _ => if (dicT h y).isSome then (dicT h y).bind fun p => (match x with
      | .kup ks => some (decide (D.tup ks ∈ p.1))
      | _ => none) else if (dicN h y).isSome then (dicN h y).bind fun p => if keyOk x then some (decide (x ∈ p.1)) else none else (deep false h 40 x).bind fun a => (seqV h y).bind fun ys => (mapO (deep false h 40) ys).bind fun bs => some (bs.any fun z => eqT z a)
def cmpD (h : Hs) (op : CmpOp) (x y : D) : Option Bool := match op with
  | .Eq => eqD h x y
  | .NotEq => (eqD h x y).map (!·)
  | .In => inD h x y
  | .NotIn => (inD h x y).map (!·)
  | .Is => match y with
    | .non => some (match x with | .non => true | _ => false)
    | .bl b => (match x with
      | .bl a => some (decide (a = b))
      | _ => none)
    | _ => none
  | .IsNot => match y with
    | .non => some (match x with | .non => false | _ => true)
    | .bl b => (match x with
      | .bl a => some (!decide (a = b))
      | _ => none)
    | _ => none
  | .Lt => match x, y with
    | .int i, .int j => some (decide (i < j))
    | _, _ => none
  | .LtE => match x, y with
    | .int i, .int j => some (decide (i ≤ j))
    | _, _ => none
  | .Gt => match x, y with
    | .int i, .int j => some (decide (j < i))
    | _, _ => none
  | .GtE => match x, y with
    | .int i, .int j => some (decide (j ≤ i))
    | _, _ => none
def ixD (h : Hs) (x i : D) : Option D := match i with
  | .int k => (match x with
    | .str s => if s.length ≤ lim then (L2.atI s k).map fun c => .str [c] else none
    | .scr ns => (L2.atI ns k).map .int
    | _ => (seqV h x).bind fun xs => L2.atI xs k)
  | .str k => (dicN h x).bind fun p => getK (.str k) p.1 p.2
  | .kup ks => (dicT h x).bind fun p => getK (.tup ks) p.1 p.2
  | _ => none
def cutL {α : Type} (xs : List α) (lo hi : Option Int) : List α := (xs.drop (HT.sIx xs.length 0 lo)).take (HT.sIx xs.length xs.length hi - HT.sIx xs.length 0 lo)
def slD (h : Hs) (x : D) (lo hi : Option Int) : Option D := match x with
  | .str s => if s.length ≤ lim then some (.str (cutL s lo hi)) else none
  | .tup xs => some (.tup (cutL xs lo hi))
  | .scr ns => some (.lst (cutL (ns.map .int) lo hi))
  | _ => (lstV h x).map fun xs => .lst (cutL xs lo hi)
def lstOf (nd : Bool) (xs : List D) (h : Hs) : R D := if nd then .ok (.ref h.length) (h ++ [.lst xs]) else .ok (.lst xs) h
/-- a list made by an operator, as a node -/
def binN (op : Operator) (x y : D) (h : Hs) : R D := match op, y with
  | .Add, b => (R.of (lstV h x) h).bind fun s h => (R.of (lstV h b) h).bind fun t h => if s.length + t.length ≤ lim then lstOf true (s ++ t) h else .bad
  | .Mult, .int j => (R.of (lstV h x) h).bind fun s h => if 0 ≤ j ∧ j < 1000 ∧ s.length * j.toNat ≤ lim then lstOf true (List.replicate j.toNat s).flatten h else .bad
  | _, _ => .bad
inductive BI where | len | repr | str | int | tuple | list | all | any | sum | max | min | sorted
  deriving DecidableEq, Repr
inductive MT where | split | splitN | join | upper | partition | isdigit | append | extend | index | count | get | sindex
  deriving DecidableEq, Repr
inductive Ty where | int | bool | str | tuple | list | dict | own (c : Nat) | err (n : String)
  deriving DecidableEq, Repr
def splitL (c : Nat) : List Nat → List (List Nat)
  | [] => [[]]
  | x :: xs => if x = c then [] :: splitL c xs else match splitL c xs with
    | [] => [[x]]
    | w :: ws => (x :: w) :: ws
def joinL (c : List Nat) : List (List Nat) → List Nat
  | [] => []
  | [w] => w
  | w :: ws => w ++ c ++ joinL c ws
def strsO : List D → Option (List (List Nat)) := mapO fun d => match d with
  | .str s => some s
  | _ => none
def intsO : List D → Option (List Int) := mapO fun d => match d with
  | .int s => some s
  | _ => none
def boolsO : List D → Option (List Bool) := mapO fun d => match d with
  | .bl s => some s
  | _ => none
def digit (c : Nat) : Bool := decide (48 ≤ c ∧ c ≤ 57)
def natOf : List Nat → Nat → Nat
  | [], n => n
  | c :: cs, n => natOf cs (10 * n + (c - 48))
def strLe (s t : List Nat) : Bool := !decide (t < s)
/-- in order already -/
def srtL : List (List Nat) → Bool
  | s :: t :: r => strLe s t && srtL (t :: r)
  | _ => true
/-- the least -/
def minI : List Int → Option Int
  | [] => none
  | i :: is => some (is.foldl (fun m j => if j < m then j else m) i)
def biD (b : BI) (nd : Bool) (vs : List D) (h : Hs) : R D := match b, vs with
  | .len, [x] => (match x with
    | .str s => if s.length ≤ lim then .ok (.int s.length) h else .bad
    | .scr ns => .ok (.int ns.length) h
    | _ => (R.of (seqV h x) h).bind fun xs h => .ok (.int xs.length) h)
  | .repr, [x] => (R.of ((deep true h 40 x).bind toPD) h).bind fun d h => if d.showable = true ∧ d.shown.length ≤ lim ∧ okB d.shown.cps.toList = true then .ok (.str d.shown.cps.toList) h else .bad
  | .str, [x] => (match x with
    | .str s => .ok (.str s) h
    | .int i => if i.natAbs.log2 < 1920 then .ok (.str (intS i)) h else .bad
    | _ => .bad)
  | .int, [x] => (match x with
    | .int i => .ok (.int i) h
    | .bl b => .ok (.int (if b then 1 else 0)) h
    | .str s => if s.all digit ∧ s ≠ [] ∧ s.length ≤ 600 then .ok (.int (natOf s 0)) h else .bad
    | _ => .bad)
  | .tuple, [x] => (R.of (seqV h x) h).bind fun xs h => .ok (.tup xs) h
  | .list, [x] => (R.of (seqV h x) h).bind fun xs h => lstOf nd xs h
  | .all, [x] => (R.of ((lstV h x).bind boolsO) h).bind fun bs h => .ok (.bl (bs.all id)) h
  | .any, [x] => (R.of ((lstV h x).bind boolsO) h).bind fun bs h => .ok (.bl (bs.any id)) h
  | .sum, [x] => (R.of ((lstV h x).bind intsO) h).bind fun bs h => .ok (.int bs.sum) h
  | .max, [.int i, .int j] => .ok (.int (if j > i then j else i)) h
  | .min, [.int i, .int j] => .ok (.int (if j < i then j else i)) h
  | .max, [.int i, .int j, .int k] => .ok (.int (let m := if j > i then j else i; if k > m then k else m)) h
  | .min, [.int i, .int j, .int k] => .ok (.int (let m := if j < i then j else i; if k < m then k else m)) h
  | .min, [x] => (R.of ((lstV h x).bind intsO) h).bind fun bs h => (R.of (minI bs) h).bind fun m h => .ok (.int m) h
  | .sorted, [x] => (R.of ((seqV h x).bind strsO) h).bind fun bs h => if bs.length ≤ 60 ∧ srtL bs = true then lstOf nd (bs.map .str) h else .bad
  | _, _ => .bad
def partS (c : Nat) : List Nat → Option (List Nat × List Nat)
  | [] => none
  | x :: xs => if x = c then some ([], xs) else (partS c xs).map fun p => (x :: p.1, p.2)
def upC (c : Nat) : Nat := if 97 ≤ c ∧ c ≤ 122 then c - 32 else c
def ascii (s : List Nat) : Bool := s.all fun c => decide (c < 128)
def mtD (m : MT) (o : D) (vs : List D) (h : Hs) : R D := match m, o, vs with
  | .split, .str s, [.str [c]] => if c < 256 ∧ s.length + 2 ≤ lim then .ok (.lst ((splitL c s).map .str)) h else .bad
  | .splitN, .str s, [.str [c]] => if c < 256 ∧ s.length + 2 ≤ lim then lstOf true ((splitL c s).map .str) h else .bad
  | .join, .str s, [x] => (R.of ((seqV h x).bind strsO) h).bind fun ws h => if (joinL s ws).length + s.length ≤ lim then .ok (.str (joinL s ws)) h else .bad
  | .upper, .str s, [] => if ascii s = true ∧ s.length ≤ lim then .ok (.str (s.map upC)) h else .bad
  | .partition, .str s, [.str [c]] => if s.length ≤ lim then (match partS c s with
    | some (a, b) => .ok (.tup [.str a, .str [c], .str b]) h
    | none => .ok (.tup [.str s, .str [], .str []]) h) else .bad
  | .isdigit, .str s, [] => if ascii s = true ∧ s.length ≤ lim then .ok (.bl (!s.isEmpty && s.all digit)) h else .bad
  | .append, .ref i, [x] => (match h[i]? with
    | some (.lst xs) => if xs.length < lim then .ok .non (h.set i (.lst (xs ++ [x]))) else .bad
    | _ => .bad)
  | .extend, .ref i, [x] => (match h[i]? with
    | some (.lst xs) => (R.of (lstV h x) h).bind fun ys h => if xs.length + ys.length < lim then .ok .non (h.set i (.lst (xs ++ ys))) else .bad
    | _ => .bad)
  | .sindex, .str s, [.str [c]] => if s = [48, 49, 50, 51, 52, 53, 54, 55, 56, 57] ∧ 48 ≤ c ∧ c ≤ 57 then .ok (.int ((c - 48 : Nat) : Int)) h else .bad
  | .index, o, [x] => (R.of (deep false h 40 x) h).bind fun a h => (R.of (lstV h o) h).bind fun ys h => (R.of (mapO (deep false h 40) ys) h).bind fun bs h =>
      (R.of (bs.findIdx? fun z => eqT z a) h).bind fun k h => .ok (.int (k : Nat)) h
  | .get, o, [k] => (R.of (dicN h o) h).bind fun p h => if keyOk k then .ok ((getK k p.1 p.2).getD .non) h else .bad
  | .get, o, [k, d] => (R.of (dicN h o) h).bind fun p h => if keyOk k then .ok ((getK k p.1 p.2).getD d) h else .bad
  | .count, .tup xs, [.bl b] => (R.of (boolsO xs) h).bind fun bs h => .ok (.int (bs.count b)) h
  | _, _, _ => .bad
/-- has the value this method? (looked up ahead of the arguments) -/
def isL : Option Nd → Bool
  | some (.lst _) => true
  | _ => false
def mtTy (h : Hs) : MT → D → Bool
  | .append, .ref i => isL h[i]?
  | .extend, .ref i => isL h[i]?
  | .index, .ref i => isL h[i]?
  | .index, .lst _ => true
  | .sindex, .str _ => true
  | .split, .str _ => true
  | .splitN, .str _ => true
  | .join, .str _ => true
  | .upper, .str _ => true
  | .partition, .str _ => true
  | .isdigit, .str _ => true
  | .get, o => (dicN h o).isSome
  | _, _ => false
/-- the classes of the program's exceptions: the built-in base -/
structure Gl where
  gls : List D
  exb : List String
  flc : List Nat
  fls : List (List (List Nat))
  gds : List (List (List Nat) × List D)
def isTy (G : Gl) (h : Hs) (x : D) : Ty → Option Bool
  | .own c => match x with
    | .exn k _ => some (k == c)
    | _ => none
  | .err n => match x with
    | .exn k _ => (G.exb[k]?).map (· == n)
    | _ => none
  | t => match x with
    | .non => some false
    | .bl _ => some (t == .bool || t == .int)
    | .int _ => some (t == .int)
    | .str _ => some (t == .str)
    | .tup _ => some (t == .tuple)
    | .lst _ => some (t == .list)
    | .ref i => ((h[i]?).bind seqN).map fun _ => t == .list
    | .exn _ _ => none
    | .dic _ _ => some (t == .dict)
    | .scr _ => none
    | .kup _ => none
def isTys (G : Gl) (h : Hs) (x : D) : List Ty → Option Bool
  | [] => some false
  | t :: ts => (isTy G h x t).bind fun b => if b then some true else isTys G h x ts
inductive Md where | raw | pure | root | cut
  deriving DecidableEq, Repr
inductive T where
  | nm (i : Nat) | tp (ts : List T) | st (i : Nat) (nd : Bool)
  deriving Inhabited, Repr
mutual
inductive E where
  | cst (d : D) | var (i : Nat) | glb (i : Nat)
  | bin (op : Operator) (a b : E) | neg (a : E)
  | cmp (op : CmpOp) (a b : E) | chn (op op2 : CmpOp) (a b c : E)
  | and (a b : E) | or (a b : E) | not (a : E) | ifx (c a b : E)
  | tup (es : List E) | lst (es : List E) (nd : Bool) | emp
  | ix (a i : E) | sl (a : E) (lo hi : Option E)
  | lc (own : List Nat) (t : T) (it : I) (c : Option E) (elt : E) (nd : Bool)
  | lc2 (own own1 : List Nat) (t : T) (it : I) (t1 : T) (it1 : I) (elt : E) (nd : Bool)
  | call (f : Nat) (es : List E) (md : Md)
  | bi (b : BI) (es : List E) (nd : Bool)
  | mt (m : MT) (o : E) (es : List E)
  | isi (a : E) (ts : List Ty)
  | fstr (ps : List E)
  | fld (a : E) (f : List Nat)
  | binN (op : Operator) (a b : E)
  | dct (ks : List D) (es : List E)
  | lrg (a b : E) (nd : Bool)
  | gix (i : Nat) (a : E)
  | gin (ng : Bool) (i : Nat) (a : E)
  | rev (a : E) (nd : Bool)
  | iso (f : Nat) (es : List E)
  | isf (f : Nat) (es : List E)
  | dctT
  | kup (es : List E)
  deriving Inhabited, Repr
inductive I where
  | ex (e : E) | range (lo hi : E) | enum (e : E) (k : Int) | zip (a b : E)
  deriving Inhabited, Repr
end
mutual
inductive S where
  | asg (t : T) (e : E)
  | sto (o i e : E)
  | aug (i : Nat) (op : Operator) (e : E)
  | ex (e : E)
  | ret (e : Option E)
  | ite (c : E) (a b : List S)
  | for_ (t : T) (it : I) (body : List S)
  | whl (c : E) (body : List S)
  | rais (c : Nat) (es : List E)
  | try_ (body : List S) (hs : List Hd)
  | pass | brk | cnt
  | ast (ts : List T) (nd : Bool) (e : E)
  | asg2 (t1 t2 : T) (e : E)
  deriving Inhabited, Repr
inductive Hd where
  | mk (cs : List Nat) (i : Option Nat) (suite : List S)
  deriving Inhabited, Repr
end
structure Fn where
  np : Nat
  ns : Nat
  body : List S
  deriving Repr
def wipeS (sl : Sl) : List Nat → Sl
  | [] => sl
  | v :: vs => (wipeS sl vs).set v none
mutual
def asgT (h : Hs) : T → D → Sl → Option Sl
  | .nm i, d, sl => some (sl.set i (some d))
  | .tp ts, d, sl => (match d with
    | .tup ds => asgTs h ts ds sl
    | .lst ds => asgTs h ts ds sl
    | _ => none)
  | .st _ _, _, _ => none
def asgTs (h : Hs) : List T → List D → Sl → Option Sl
  | [], [], sl => some sl
  | t :: ts, d :: ds, sl => (asgT h t d sl).bind fun sl => asgTs h ts ds sl
  | _, _, _ => none
end
/-- nodes that are gone through, with what they hold -/
abbrev Src := List (Nat × List D)
def chk (s : Src) (h : Hs) : Bool := s.all fun p => match h[p.1]? with
  | some (.lst ys) => decide (ys = p.2)
  | _ => false
def srcOf (d : D) (xs : List D) : Src := match d with
  | .ref i => [(i, xs)]
  | _ => []
def mapR (s : Src) (f : D → Hs → R (Option D)) : List D → Hs → R (List D)
  | [], h => if chk s h then .ok [] h else .bad
  | x :: xs, h => if chk s h then (f x h).bind fun o h => (mapR s f xs h).bind fun ys h => match o with
    | some y => .ok (y :: ys) h
    | none => .ok ys h else .bad
def flatR (s : Src) (f : D → Hs → R (List D)) : List D → Hs → R (List D)
  | [], h => if chk s h then .ok [] h else .bad
  | x :: xs, h => if chk s h then (f x h).bind fun o h => (flatR s f xs h).bind fun ys h => .ok (o ++ ys) h else .bad
def rangeL (lo : Int) (n : Nat) : List D := (List.range n).map fun k => .int (lo + (k : Nat))
def enumL (k : Int) : List D → List D
  | [] => []
  | x :: xs => .tup [.int k, x] :: enumL (k + 1) xs
def zipL : List D → List D → List D
  | x :: xs, y :: ys => .tup [x, y] :: zipL xs ys
  | _, _ => []
/-- what is frozen at a def's end: the nodes from n on, but x -/
def frz (h : Hs) (n x : Nat) : Nat → D → Option D
  | 0, _ => none
  | k + 1, .tup xs => (mapO (frz h n x k) xs).map .tup
  | k + 1, .lst xs => (mapO (frz h n x k) xs).map .lst
  | k + 1, .ref i => if i < n then some (.ref i) else if i = x then none else ((h[i]?).bind seqN).bind fun xs => (mapO (frz h n x k) xs).map .lst
  | _ + 1, .exn _ _ => none
  | _ + 1, .scr _ => none
  | _ + 1, .kup _ => none
  | _ + 1, d => some d
mutual
/-- no reference from n on -/
def refB (n : Nat) : D → Bool
  | .ref i => decide (i < n)
  | .tup xs => refBs n xs
  | .lst xs => refBs n xs
  | .exn _ fs => refBs n fs
  | _ => true
def refBs (n : Nat) : List D → Bool
  | [] => true
  | x :: xs => refB n x && refBs n xs
end
def refN (n : Nat) : Nd → Bool
  | .lst xs => refBs n xs
  | .dic _ _ vs => refBs n vs
  | .ins _ fs => refBs n (fs.map (·.2))
/-- the nodes that were there, which know nothing of the new ones -/
def cutOk (h0 h : Hs) : Bool := decide (h0.length ≤ h.length) && (h.take h0.length).all (refN h0.length)
def endCall (md : Md) (h0 : Hs) (r : R D) : R D := match md with
  | .raw => r
  | .pure => (match r with
    | .ok d h => if h.take h0.length = h0 then (R.of (frz h h0.length h.length 40 d) h0) else .bad
    | .exc c fs h => if h.take h0.length = h0 then (match mapO (frz h h0.length h.length 40) fs with
      | some fs => .exc c fs h0
      | none => .bad) else .bad
    | .bad => .bad)
  | .cut => (match r with
    | .ok d h => if cutOk h0 h = true then (R.of (frz h h0.length h.length 40 d) (h.take h0.length)) else .bad
    | _ => .bad)
  | .root => (match r with
    | .ok (.ref i) h => if h.take h0.length = h0 ∧ h0.length ≤ i then (match h[i]? with
      | some (.lst xs) => (match mapO (frz h h0.length i 40) xs with
        | some xs => .ok (.ref h0.length) (h0 ++ [.lst xs])
        | none => .bad)
      | _ => .bad) else .bad
    | .exc c fs h => if h.take h0.length = h0 then (match mapO (frz h h0.length h.length 40) fs with
      | some fs => .exc c fs h0
      | none => .bad) else .bad
    | _ => .bad)
mutual
/-- no list, no dict in it -/
def noL : D → Bool
  | .tup xs => noLs xs
  | .lst _ => false
  | .dic _ _ => false
  | .ref _ => false
  | .exn _ _ => false
  | .scr _ => false
  | .kup _ => false
  | _ => true
def noLs : List D → Bool
  | [] => true
  | x :: xs => noL x && noLs xs
end
def noLR : R D → R D
  | .ok d h => if noL d = true then .ok d h else .bad
  | .exc c fs h => if noLs fs = true then .exc c fs h else .bad
  | .bad => .bad
/-- {x} in an f-string -/
def fmtD : D → Option (List Nat)
  | .str s => some s
  | .int i => if i.natAbs.log2 < 1920 then some (intS i) else none
  | _ => none
section
variable (G : Gl) (C : Nat → List D → Hs → R D)
mutual
def evE : E → Sl → Hs → R D
  | .cst d, _, h => .ok d h
  | .var i, sl, h => (match sl[i]? with
    | some (some d) => .ok d h
    | _ => .bad)
  | .glb i, _, h => R.of (G.gls[i]?) h
  | .bin op a b, sl, h => (evE a sl h).bind fun x h => (evE b sl h).bind fun y h => binD op x y h
  | .neg a, sl, h => (evE a sl h).bind fun x h => (match x with
    | .int i => .ok (.int (-i)) h
    | _ => .bad)
  | .cmp op a b, sl, h => (evE a sl h).bind fun x h => (evE b sl h).bind fun y h => (R.of (cmpD h op x y) h).bind fun b h => .ok (.bl b) h
  | .chn op op2 a b c, sl, h => (evE a sl h).bind fun x h => (evE b sl h).bind fun y h => (R.of (cmpD h op x y) h).bind fun t h =>
      if t then (evE c sl h).bind fun z h => (R.of (cmpD h op2 y z) h).bind fun b h => .ok (.bl b) h else .ok (.bl false) h
  | .and a b, sl, h => (evE a sl h).bind fun x h => (R.of (truD h x) h).bind fun t h => if t then evE b sl h else .ok x h
  | .or a b, sl, h => (evE a sl h).bind fun x h => (R.of (truD h x) h).bind fun t h => if t then .ok x h else evE b sl h
  | .not a, sl, h => (evE a sl h).bind fun x h => (R.of (truD h x) h).bind fun t h => .ok (.bl (!t)) h
  | .ifx c a b, sl, h => (evE c sl h).bind fun x h => (R.of (truD h x) h).bind fun t h => if t then evE a sl h else evE b sl h
  | .tup es, sl, h => (evEs es sl h).bind fun vs h => .ok (.tup vs) h
  | .lst es nd, sl, h => (evEs es sl h).bind fun vs h => lstOf nd vs h
  | .emp, _, h => .ok (.dic [] []) h
  | .ix a i, sl, h => (evE a sl h).bind fun x h => (evE i sl h).bind fun y h => R.of (ixD h x y) h
  | .sl a lo hi, sl, h => (evE a sl h).bind fun x h => (evO lo sl h).bind fun l h => (evO hi sl h).bind fun u h => R.of (slD h x l u) h
  | .lc own t it c elt nd, sl, h => (evI it sl h).bind fun xs h => if xs.1.length < lim then ((mapR xs.2 (fun x h => (R.of (asgT h t x (wipeS sl own)) h).bind fun sl2 h => (evC c sl2 h).bind fun ok h =>
      if ok then (evE elt sl2 h).bind fun y h => .ok (some y) h else .ok none h) xs.1 h).nox).bind fun ys h => lstOf nd ys h else .bad
  | .lc2 own own1 t it t1 it1 elt nd, sl, h => (evI it sl h).bind fun xs h => ((flatR xs.2 (fun x h => (R.of (asgT h t x (wipeS sl own)) h).bind fun sl2 h => (evI it1 sl2 h).bind fun ys h =>
      mapR ys.2 (fun y h => (R.of (asgT h t1 y (wipeS sl2 own1)) h).bind fun sl3 h => (evE elt sl3 h).bind fun z h => .ok (some z) h) ys.1 h) xs.1 h).nox).bind fun ys h => if ys.length < lim then lstOf nd ys h else .bad
  | .call f es md, sl, h => (evEs es sl h).bind fun vs h => endCall md h (C f vs h)
  | .bi b es nd, sl, h => (evEs es sl h).bind fun vs h => biD b nd vs h
  | .mt m o es, sl, h => (evE o sl h).bind fun x h => if mtTy h m x then (evEs es sl h).bind fun vs h => mtD m x vs h else .bad
  | .isi a ts, sl, h => (evE a sl h).bind fun x h => (R.of (isTys G h x ts) h).bind fun b h => .ok (.bl b) h
  | .fstr ps, sl, h => (evF ps [] sl h).bind fun w h => .ok (.str w) h
  | .fld a f, sl, h => (evE a sl h).bind fun x h => (match x with
    | .exn c fs => R.of ((G.fls[c]?).bind fun ns => (ns.zip fs).lookup f) h
    | _ => .bad)
  | .binN op a b, sl, h => (evE a sl h).bind fun x h => (evE b sl h).bind fun y h => binN op x y h
  | .dct ks es, sl, h => if ks.all keyOk then (evEs es sl (h ++ [.dic false [] []])).bind fun vs h2 => if vs.length = ks.length ∧ ks.Nodup ∧ h2[h.length]? = some (.dic false [] []) then .ok (.ref h.length) (h2.set h.length (.dic false ks vs)) else .bad else .bad
  | .lrg a b nd, sl, h => (evE a sl h).bind fun x h => (evE b sl h).bind fun y h => (match x, y with
    | .int i, .int j => if -1000000 ≤ i ∧ i ≤ 1000000 ∧ -1000000 ≤ j ∧ j ≤ 1000000 then lstOf nd (rangeL i (j - i).toNat) h else .bad
    | _, _ => .bad)
  | .gix i a, sl, h => (evE a sl h).bind fun x h => R.of (gixD G.gds i x) h
  | .gin ng i a, sl, h => (evE a sl h).bind fun x h => (R.of (ginD G.gds i x) h).bind fun b h => .ok (.bl (b != ng)) h
  | .rev a nd, sl, h => (evE a sl h).bind fun x h => (R.of (lstV h x) h).bind fun xs h => lstOf nd xs.reverse h
  | .iso f es, sl, h => (evEs es sl h).bind fun vs h => if refBs 0 vs = true then R.at h (endCall .pure [] (C f vs [])) else .bad
  | .isf f es, sl, h => (evEs es sl h).bind fun vs h => (R.of (mapO (deep false h 40) vs) h).bind fun ws h => R.at h (noLR (endCall .pure [] (C f ws [])))
  | .dctT, _, h => .ok (.ref h.length) (h ++ [.dic true [] []])
  | .kup es, sl, h => (evEs es sl h).bind fun vs h => if vs.all keyOk = true then .ok (.kup vs) h else .bad
termination_by structural e => e
def evEs : List E → Sl → Hs → R (List D)
  | [], _, h => .ok [] h
  | e :: es, sl, h => (evE e sl h).bind fun x h => (evEs es sl h).bind fun xs h => .ok (x :: xs) h
termination_by structural e => e
def evF : List E → List Nat → Sl → Hs → R (List Nat)
  | [], acc, _, h => .ok acc h
  | e :: es, acc, sl, h => (evE e sl h).bind fun x h => (R.of (fmtD x) h).bind fun w h => if (acc ++ w).length ≤ lim then evF es (acc ++ w) sl h else .bad
termination_by structural e => e
def evO : Option E → Sl → Hs → R (Option Int)
  | none, _, h => .ok none h
  | some e, sl, h => (evE e sl h).bind fun x h => (match x with
    | .int i => .ok (some i) h
    | _ => .bad)
termination_by structural e => e
def evC : Option E → Sl → Hs → R Bool
  | none, _, h => .ok true h
  | some e, sl, h => (evE e sl h).bind fun x h => R.of (truD h x) h
termination_by structural e => e
def evI : I → Sl → Hs → R (List D × Src)
  | .ex e, sl, h => (evE e sl h).bind fun x h => (match x with
    | .str s => .ok (s.map fun c => .str [c], []) h
    | _ => (R.of (seqV h x) h).bind fun xs h => .ok (xs, srcOf x xs) h)
  | .range a b, sl, h => (evE a sl h).bind fun x h => (evE b sl h).bind fun y h => (match x, y with
    | .int i, .int j => if -1000000 ≤ i ∧ i ≤ 1000000 ∧ -1000000 ≤ j ∧ j ≤ 1000000 then .ok (rangeL i (j - i).toNat, []) h else .bad
    | _, _ => .bad)
  | .enum e k, sl, h => (evE e sl h).bind fun x h => (R.of (seqV h x) h).bind fun xs h => .ok (enumL k xs, srcOf x xs) h
  | .zip a b, sl, h => (evE a sl h).bind fun x h => (evE b sl h).bind fun y h => (R.of (seqV h x) h).bind fun xs h => (R.of (seqV h y) h).bind fun ys h =>
      if xs.length = ys.length then .ok (zipL xs ys, srcOf x xs ++ srcOf y ys) h else .bad
termination_by structural e => e
end
inductive F where | nx | rt (d : D) | bk | ct
  deriving Repr
inductive Q where
  | ok (f : F) (sl : Sl) (h : Hs)
  | exc (c : Nat) (fs : List D) (sl : Sl) (h : Hs)
  | bad
  deriving Repr
def Q.bind (q : Q) (f : Sl → Hs → Q) : Q := match q with
  | .ok .nx sl h => f sl h
  | q => q
def R.q {α : Type} (r : R α) (sl : Sl) (f : α → Hs → Q) : Q := match r with
  | .ok a h => f a h
  | .exc c fs h => .exc c fs sl h
  | .bad => .bad
def forL (s : Src) (f : D → Sl → Hs → Q) : List D → Sl → Hs → Q
  | [], sl, h => if chk s h then .ok .nx sl h else .bad
  | x :: xs, sl, h => if chk s h then (match f x sl h with
    | .ok .nx sl h => forL s f xs sl h
    | .ok .ct sl h => forL s f xs sl h
    | .ok .bk sl h => .ok .nx sl h
    | q => q) else .bad
def whlL (c : Sl → Hs → R Bool) (f : Sl → Hs → Q) : Nat → Sl → Hs → Q
  | 0, _, _ => .bad
  | n + 1, sl, h => (c sl h).q sl fun b h => if b then (match f sl h with
    | .ok .nx sl h => whlL c f n sl h
    | .ok .ct sl h => whlL c f n sl h
    | .ok .bk sl h => .ok .nx sl h
    | q => q) else .ok .nx sl h
def stoD (o i v : D) (h : Hs) : R Unit := match o, i with
  | .ref a, .int k => (match h[a]? with
    | some (.lst xs) => (match L2.ixN xs.length k with
      | some j => .ok () (h.set a (.lst (xs.set j v)))
      | none => .bad)
    | _ => .bad)
  | .ref a, .str k => (match h[a]? with
    | some (.dic false ks vs) => if ks.length < lim then .ok () (h.set a (.dic false (putKD (.str k) v ks vs).1 (putKD (.str k) v ks vs).2)) else .bad
    | _ => .bad)
  | .ref a, .kup k => (match h[a]? with
    | some (.dic true ks vs) => if ks.length < lim then .ok () (h.set a (.dic true (putKD (.tup k) v ks vs).1 (putKD (.tup k) v ks vs).2)) else .bad
    | _ => .bad)
  | _, _ => .bad
def wFuel : Nat := 100000
mutual
/-- no exception in it -/
def noX : D → Bool
  | .exn _ _ => false
  | .tup xs => noXs xs
  | .lst xs => noXs xs
  | _ => true
def noXs : List D → Bool
  | [] => true
  | x :: xs => noX x && noXs xs
end
/-- the slots behind a suite: as they were, or free of exceptions -/
def okSl : Sl → Sl → Bool
  | [], [] => true
  | none :: as, _ :: bs => okSl as bs
  | some a :: as, b :: bs => (decide (b = some a) || noX a) && okSl as bs
  | _, _ => false
def okF : F → Bool
  | .rt d => noX d
  | _ => true
mutual
def evS : S → Sl → Hs → Q
  | .asg t e, sl, h => (evE G C e sl h).q sl fun v h => (R.of (asgT h t v sl) h).q sl fun sl h => .ok .nx sl h
  | .sto o i e, sl, h => (evE G C e sl h).q sl fun v h => (evE G C o sl h).q sl fun x h => (evE G C i sl h).q sl fun k h => (stoD x k v h).q sl fun _ h => .ok .nx sl h
  | .aug i op e, sl, h => (evE G C (.var i) sl h).q sl fun x h => (evE G C e sl h).q sl fun y h => (match x, y with
    | .int _, .int _ => (binD op x y h).q sl fun z h => .ok .nx (sl.set i (some z)) h
    | _, _ => .bad)
  | .ex e, sl, h => (evE G C e sl h).q sl fun _ h => .ok .nx sl h
  | .ret none, sl, h => .ok (.rt .non) sl h
  | .ret (some e), sl, h => (evE G C e sl h).q sl fun v h => .ok (.rt v) sl h
  | .ite c a b, sl, h => (evE G C c sl h).q sl fun x h => (R.of (truD h x) h).q sl fun t h => if t then evSs a sl h else evSs b sl h
  | .for_ t it body, sl, h => (evI G C it sl h).q sl fun xs h => forL xs.2 (fun x sl h => (R.of (asgT h t x sl) h).q sl fun sl h => evSs body sl h) xs.1 sl h
  | .whl c body, sl, h => whlL (fun sl h => (evE G C c sl h).bind fun x h => R.of (truD h x) h) (fun sl h => evSs body sl h) wFuel sl h
  | .rais c es, sl, h => (evEs G C es sl h).q sl fun vs h => if G.flc[c]? = some vs.length then .exc c vs sl h else .bad
  | .try_ body hs, sl, h => (match evSs body sl h with
    | .exc c fs sl h => if c < G.exb.length then evH hs c fs sl h else .bad
    | q => q)
  | .pass, sl, h => .ok .nx sl h
  | .brk, sl, h => .ok .bk sl h
  | .cnt, sl, h => .ok .ct sl h
  | .ast ts nd e, sl, h => (evE G C e sl h).q sl fun v h => (R.of (seqV h v) h).q sl fun ds h => if ts.length ≤ ds.length + 1 ∧ ts ≠ [] ∧ ds.length ≤ lim then
      (lstOf nd (ds.drop (ts.length - 1)) h).q sl fun y h => (R.of (asgTs h ts (ds.take (ts.length - 1) ++ [y]) sl) h).q sl fun sl h => .ok .nx sl h else .bad
  | .asg2 t1 t2 e, sl, h => (evE G C e sl h).q sl fun v h => (R.of (asgT h t1 v sl) h).q sl fun sl h => (R.of (asgT h t2 v sl) h).q sl fun sl h => .ok .nx sl h
termination_by structural s => s
def evSs : List S → Sl → Hs → Q
  | [], sl, h => .ok .nx sl h
  | s :: ss, sl, h => (evS s sl h).bind fun sl h => evSs ss sl h
termination_by structural s => s
def evH : List Hd → Nat → List D → Sl → Hs → Q
  | [], c, fs, sl, h => .exc c fs sl h
  | x :: xs, c, fs, sl, h => match evH1 x c fs sl h with
    | some q => q
    | none => evH xs c fs sl h
termination_by structural s => s
def evH1 : Hd → Nat → List D → Sl → Hs → Option Q
  | .mk cs i suite, c, fs, sl, h => if cs.contains c then some (match i with
      | none => evSs suite sl h
      | some i => (match evSs suite (sl.set i (some (.exn c fs))) h with
        | .ok f sl2 h2 => if h2 = h ∧ okSl (sl2.set i none) sl = true ∧ okF f = true then .ok f (sl2.set i none) h else .bad
        | _ => .bad)) else none
termination_by structural s => s
end
end
/-- a def called: n deep -/
def callN (G : Gl) (F : List Fn) : Nat → Nat → List D → Hs → R D
  | 0, _, _, _ => .bad
  | n + 1, f, vs, h => match F[f]? with
    | some fn => if vs.length = fn.np then (match evSs G (callN G F n) fn.body (vs.map some ++ List.replicate (fn.ns - fn.np) none) h with
      | .ok (.rt v) _ h => .ok v h
      | .ok .nx _ h => .ok .non h
      | .exc c fs _ h => .exc c fs h
      | _ => .bad) else .bad
    | none => .bad
end L2.MP
namespace L2.MP
section
variable {α : Type} [DecidableEq α]
def ed : List α → List α → Nat
  | [], ys => ys.length
  | _ :: xs, [] => xs.length + 1
  | x :: xs, y :: ys => min (min ((if x = y then 0 else 1) + ed xs ys) (1 + ed xs (y :: ys))) (1 + ed (x :: xs) ys)
termination_by xs ys => xs.length + ys.length
theorem ed_nil : ∀ xs : List α, ed xs [] = xs.length
  | [] => by simp [ed]
  | _ :: _ => by simp [ed]
theorem ed_nill (ys : List α) : ed ([] : List α) ys = ys.length := by simp [ed]
theorem ed_cc (x : α) (xs : List α) (y : α) (ys : List α) : ed (x :: xs) (y :: ys) = min (min ((if x = y then 0 else 1) + ed xs ys) (1 + ed xs (y :: ys))) (1 + ed (x :: xs) ys) := by rw [ed]
theorem up_l (x : α) (xs ys : List α) : ed (x :: xs) ys ≤ ed xs ys + 1 := by
  cases ys with
  | nil => simp only [ed_nil, List.length_cons]; omega
  | cons y ys => rw [ed_cc]; omega
theorem up_r (xs : List α) (y : α) (ys : List α) : ed xs (y :: ys) ≤ ed xs ys + 1 := by
  cases xs with
  | nil => simp only [ed_nill, List.length_cons]; omega
  | cons x xs => rw [ed_cc]; omega
theorem lo_l (x : α) (xs : List α) : ∀ ys : List α, ed xs ys ≤ ed (x :: xs) ys + 1
  | [] => by simp only [ed_nil, List.length_cons]; omega
  | y :: ys => by
    have h1 := up_r xs y ys
    have h2 := lo_l x xs ys
    rw [ed_cc]
    omega
theorem lo_r (y : α) (ys : List α) : ∀ xs : List α, ed xs ys ≤ ed xs (y :: ys) + 1
  | [] => by simp only [ed_nill, List.length_cons]; omega
  | x :: xs => by
    have h1 := up_l x xs ys
    have h2 := lo_r y ys xs
    rw [ed_cc]
    omega
/-- equal first lines: nothing to do -/
theorem ed_eq (x : α) (xs ys : List α) : ed (x :: xs) (x :: ys) = ed xs ys := by
  have h1 := lo_l x xs ys
  have h2 := lo_r x ys xs
  rw [ed_cc, if_pos rfl]
  omega
theorem ed_ne {x y : α} (h : x ≠ y) (xs ys : List α) : ed (x :: xs) (y :: ys) = 1 + min (min (ed xs ys) (ed xs (y :: ys))) (ed (x :: xs) ys) := by
  rw [ed_cc, if_neg h]
  omega
theorem ed_symm : ∀ xs ys : List α, ed xs ys = ed ys xs
  | [], ys => by rw [ed_nil, ed_nill]
  | x :: xs, [] => by rw [ed_nil, ed_nill]
  | x :: xs, y :: ys => by
    rw [ed_cc, ed_cc, ed_symm xs ys, ed_symm xs (y :: ys), ed_symm (x :: xs) ys]
    have : (if x = y then 0 else 1) = (if y = x then (0 : Nat) else 1) := by
      by_cases h : x = y
      · rw [if_pos h, if_pos h.symm]
      · rw [if_neg h, if_neg fun z => h z.symm]
    rw [this]
    omega
termination_by xs ys => xs.length + ys.length
theorem ed_le (xs : List α) : ∀ ys : List α, ed xs ys ≤ xs.length + ys.length := by
  induction xs with
  | nil => intro ys; simp [ed_nill]
  | cons x xs ih =>
    intro ys
    have := up_l x xs ys
    have := ih ys
    simp only [List.length_cons]
    omega
end
end L2.MP
namespace L2.MP
open PySem
structure Cf where
  fns : List Str
  exs : List Str
  gls : List Str
  nds : List (Nat × Nat)
  roots : List (Nat × Nat)
  raws : List Str
  ars : List (Option Nat)
  calm : Bool
  cuts : List (Nat × Nat)
  gds : List Str
  isos : List (Nat × Nat)
  isfs : List (Nat × Nat)
def ixOf : List Str → Str → Option Nat
  | [], _ => none
  | y :: r, x => if y = x then some 0 else (ixOf r x).map (· + 1)
def hasP : List (Nat × Nat) → Pos → Bool
  | [], _ => false
  | q :: r, p => (q.1 == p.line && q.2 == p.col) || hasP r p
def memS : List Str → Str → Bool
  | [], _ => false
  | y :: r, x => decide (y = x) || memS r x
def loc? (N : List Str) (sc : Scope) (x : Str) : Option Nat := match sc.names.lookup x with
  | some .local => ixOf N x
  | some .cell => ixOf N x
  | some .free => ixOf N x
  | _ => none
def glo? (sc : Scope) (x : Str) : Bool := match sc.names.lookup x with
  | some .globalImplicit => true
  | _ => false
def ownP (N : List Str) (sc : Scope) : List (Str × Nat) := sc.names.filterMap fun y => match y.2 with
  | .local => (ixOf N y.1).map fun i => (y.1, i)
  | .cell => (ixOf N y.1).map fun i => (y.1, i)
  | _ => none
def isSync (g : Comprehension) : Bool := g.is_async == 0
def bi? (x : Str) : Option BI :=
  if x = "len" then some .len
  else if x = "tuple" then some .tuple else if x = "list" then some .list else if x = "all" then some .all else if x = "any" then some .any
  else if x = "sum" then some .sum else if x = "max" then some .max else if x = "min" then some .min else if x = "int" then some .int else if x = "str" then some .str else if x = "repr" then some .repr else if x = "sorted" then some .sorted else none
def mt1? (nd : Bool) (x : Str) : Option MT :=
  if x = "split" then some (if nd then .splitN else .split) else if x = "join" then some .join else if x = "partition" then some .partition
  else if x = "append" then some .append else if x = "extend" then some .extend else if x = "get" then some .get else none
def mt? (nd : Bool) (x : Str) : Option MT := if x = "index" then (if nd then some .sindex else some .index) else mt1? nd x
def ty? (cf : Cf) (sc : Scope) (x : Str) : Option Ty := if glo? sc x then (match ixOf cf.exs x with
  | some c => some (.own c)
  | none => if x = "int" then some .int else if x = "bool" then some .bool else if x = "str" then some .str else if x = "tuple" then some .tuple
    else if x = "list" then some .list else if x = "dict" then some .dict else if x = "ValueError" then some (.err "ValueError") else if x = "KeyError" then some (.err "KeyError")
    else if x = "OverflowError" then some (.err "OverflowError") else none) else none
def tys? (cf : Cf) (sc : Scope) : List Expr → Option (List Ty)
  | [] => some []
  | .Name x _ :: r => (ty? cf sc x).bind fun t => (tys? cf sc r).bind fun ts => some (t :: ts)
  | _ => none
def noFns (cf : Cf) : List Expr → Bool
  | [] => true
  | .Name x _ :: r => (ixOf cf.fns x).isNone && noFns cf r
  | _ :: r => noFns cf r
def biCalm : BI → Bool
  | .len => true
  | .repr => true
  | .str => true
  | .int => true
  | .tuple => true
  | .list => true
  | _ => false
def isCall0 : Expr → Bool
  | .Call _ [] [] _ => true
  | _ => false
def cst? : Const → Option D
  | .none => some .non
  | .bool b => some (.bl b)
  | .int i => some (.int i)
  | .str s => if okB s.cps.toList then some (.str s.cps.toList) else none
  | _ => none
/-- a dict's written keys -/
def trK : List (Option Expr) → Option (List D)
  | [] => some []
  | some (.Constant c _ _) :: r => (cst? c).bind fun d => if keyOk d then (trK r).map (d :: ·) else none
  | _ => none
/-- methods without arguments -/
def mt0? (x : Str) : Option MT := if x = "isdigit" then some .isdigit else if x = "upper" then some .upper else none
/-- a dict of the module -/
def gdIx (cf : Cf) (sc : Scope) : Expr → Option Nat
  | .Name x _ => if glo? sc x then ixOf cf.gds x else none
  | _ => none
def inOp : CmpOp → Option Bool
  | .In => some false
  | .NotIn => some true
  | _ => none
def gdIn (cf : Cf) (sc : Scope) (op : CmpOp) (b : Expr) : Option (Bool × Nat) := (inOp op).bind fun g => (gdIx cf sc b).map fun i => (g, i)
/-- range(a), range(a, b) as the only argument -/
def rngOf (cf : Cf) (sc : Scope) : List Expr → Option (Option Expr × Expr)
  | [.Call (.Name x _) es [] _] => if x = "range" ∧ glo? sc x = true ∧ (ixOf cf.fns x).isNone = true ∧ (ixOf cf.exs x).isNone = true then (match es with
    | [a] => some (none, a)
    | [a, b] => some (some a, b)
    | _ => none) else none
  | _ => none
mutual
def trT (nd : Bool) : Nat → List Str → Scope → Expr → Option T
  | 0, _, _, _ => none
  | n + 1, N, sc, e => match e with
    | .Name x _ => (match sc.names.lookup x with
      | some .local => (ixOf N x).map .nm
      | some .cell => (ixOf N x).map .nm
      | _ => none)
    | .Tuple es _ _ => (trTs nd n N sc es).map .tp
    | .Starred (.Name x _) _ => (match sc.names.lookup x with
      | some .local => (ixOf N x).map fun i => .st i nd
      | _ => none)
    | _ => none
def trTs (nd : Bool) : Nat → List Str → Scope → List Expr → Option (List T)
  | 0, _, _, _ => none
  | _ + 1, _, _, [] => some []
  | n + 1, N, sc, e :: es => (trT nd n N sc e).bind fun t => (trTs nd n N sc es).bind fun ts => some (t :: ts)
end
mutual
def tIx : T → List Nat
  | .nm i => [i]
  | .tp ts => tIxs ts
  | .st i _ => [i]
def tIxs : List T → List Nat
  | [] => []
  | t :: ts => tIx t ++ tIxs ts
end
/-- what is gone through, and the target: some go only with a tuple target -/
def tgOk : I → Expr → Bool
  | .enum _ _, .Tuple _ _ _ => true
  | .zip _ _, .Tuple _ _ _ => true
  | .enum _ _, _ => false
  | .zip _ _, _ => false
  | _, _ => true
mutual
def trE (cf : Cf) : Nat → List Str → Scope → Expr → Option E
  | 0, _, _, _ => none
  | n + 1, N, sc, e => match e with
    | .Constant c _ _ => (cst? c).map .cst
    | .Name x _ => (match loc? N sc x with
      | some i => some (.var i)
      | none => if glo? sc x then (ixOf cf.gls x).map .glb else none)
    | .BinOp a op b p => (trE cf n N sc a).bind fun a => (trE cf n N sc b).bind fun b => some (if hasP cf.nds p then .binN op a b else .bin op a b)
    | .UnaryOp .USub a _ => (trE cf n N sc a).map .neg
    | .UnaryOp .Not a _ => (trE cf n N sc a).map .not
    | .BoolOp op es _ => trB cf n N sc op es
    | .Compare a [op] [b] _ => (match gdIn cf sc op b with
      | some g => (trE cf n N sc a).map (.gin g.1 g.2)
      | none => (trE cf n N sc a).bind fun a => (trE cf n N sc b).bind fun b => some (.cmp op a b))
    | .Compare a [op, op2] [b, c] _ => (trE cf n N sc a).bind fun a => (trE cf n N sc b).bind fun b => (trE cf n N sc c).bind fun c => some (.chn op op2 a b c)
    | .IfExp c a b _ => (trE cf n N sc c).bind fun c => (trE cf n N sc a).bind fun a => (trE cf n N sc b).bind fun b => some (.ifx c a b)
    | .Tuple es _ p => if es.length ≤ 1000 then (trEs cf n N sc es).map (fun ms => if hasP cf.nds p then .kup ms else .tup ms) else none
    | .Dict [] [] p => some (if hasP cf.nds p then .dctT else .emp)
    | .Dict (key :: ks) vs _ => (trK (key :: ks)).bind fun kd => if (key :: ks).length ≤ 15 ∧ vs.length = (key :: ks).length then (trEs cf n N sc vs).map fun es => .dct kd es else none
    | .List es p => if es.length ≤ 1000 then (trEs cf n N sc es).map fun es => .lst es (hasP cf.nds p) else none
    | .Subscript a (.Slice lo hi none _) _ => (trE cf n N sc a).bind fun a => (trO cf n N sc lo).bind fun lo => (trO cf n N sc hi).bind fun hi => some (.sl a lo hi)
    | .Subscript a (.Slice none none (some (.UnaryOp .USub (.Constant (.int 1) _ _) _)) _) p => (trE cf n N sc a).map fun a => .rev a (hasP cf.nds p)
    | .Subscript a i _ => (match gdIx cf sc a with
      | some k => (trE cf n N sc i).map (.gix k)
      | none => (trE cf n N sc a).bind fun a => (trE cf n N sc i).bind fun i => some (.ix a i))
    | .ListComp elt [g] sc2 p => let s2 := L2.relS sc2 sc
      (trI cf n N sc g.iter).bind fun it => (trT false n N sc2 g.target).bind fun t => (match g.ifs with
        | [] => some none
        | [c] => (trE cf n N s2 c).map some
        | _ => none).bind fun c => (trE cf n N s2 elt).bind fun elt => if cf.calm && tgOk it g.target && isSync g && (tIx t).all (fun i => ((ownP N sc2).map Prod.snd).contains i) && L2.blkC N sc sc2 (ownP N sc2) then some (.lc ((ownP N sc2).map Prod.snd) t it c elt (hasP cf.nds p)) else none
    | .Call (.Name x _) es kws p => if glo? sc x then (match ixOf cf.fns x with
        | some f => if kws.isEmpty && cf.calm then (trEs cf n N sc es).map fun es => if hasP cf.isos p then .iso f es else if hasP cf.isfs p then .isf f es else .call f es (if hasP cf.roots p then .root else if hasP cf.cuts p then .cut else if memS cf.raws x then .raw else .pure) else none
        | none => if x = "isinstance" ∧ (ixOf cf.exs x).isNone = true ∧ kws.isEmpty = true then (match es with
            | [a, .Name c _] => if (ixOf cf.fns c).isNone then (trE cf n N sc a).bind fun a => (ty? cf sc c).map fun t => .isi a [t] else none
            | [a, .Tuple cs _ _] => if noFns cf cs && decide (cs.length ≤ 1000) && !cs.isEmpty then (trE cf n N sc a).bind fun a => (tys? cf sc cs).map fun ts => .isi a ts else none
            | _ => none)
          else if x = "list" ∧ cf.calm = true ∧ kws.isEmpty = true ∧ (ixOf cf.exs x).isNone = true ∧ (rngOf cf sc es).isSome = true then (rngOf cf sc es).bind fun ab => (match ab.1 with
            | none => some (E.cst (.int 0))
            | some a => trE cf n N sc a).bind fun a => (trE cf n N sc ab.2).map fun b => .lrg a b (hasP cf.nds p)
          else if kws.isEmpty && !es.isEmpty && (ixOf cf.exs x).isNone then (bi? x).bind fun b => if cf.calm || biCalm b then (trEs cf n N sc es).map fun es => .bi b es (hasP cf.nds p) else none else none) else none
    | .JoinedStr es _ => if es.length < 2 then none else (trF cf n N sc es).map .fstr
    | .ListComp elt [g, g1] sc2 p => let s2 := L2.relS sc2 sc
      (trI cf n N sc g.iter).bind fun it => (trT false n N sc2 g.target).bind fun t => (trI cf n N s2 g1.iter).bind fun it1 => (trT false n N sc2 g1.target).bind fun t1 => (trE cf n N s2 elt).bind fun elt =>
        if cf.calm && tgOk it g.target && tgOk it1 g1.target && isSync g && isSync g1 && g.ifs.isEmpty && g1.ifs.isEmpty && (tIx t).all (fun i => ((ownP N sc2).map Prod.snd).contains i) && (tIx t1).all (fun i => ((ownP N sc2).map Prod.snd).contains i) && L2.blkC N sc sc2 (ownP N sc2) then some (.lc2 ((ownP N sc2).map Prod.snd) (tIx t1) t it t1 it1 elt (hasP cf.nds p)) else none
    | .Attribute (.Name x q) f _ => (trE cf n N sc (.Name x q)).map fun a => .fld a f.cps.toList
    | .Call (.Attribute o m ap) [] [] cp => if ap.endLine == cp.line && !isCall0 o then (mt0? m).bind fun m => (trE cf n N sc o).map fun o => .mt m o [] else none
    | .Call (.Attribute o m ap) es [] cp => if ap.endLine == cp.line && decide (es.length < 20) && !es.isEmpty && !isCall0 o then (mt? (hasP cf.nds cp) m).bind fun m => (trE cf n N sc o).bind fun o => (trEs cf n N sc es).map fun es => .mt m o es else none
    | _ => none
def trB (cf : Cf) : Nat → List Str → Scope → BoolOp → List Expr → Option E
  | 0, _, _, _, _ => none
  | n + 1, N, sc, op, es => match es with
    | [] => none
    | [e] => trE cf n N sc e
    | e :: es => (trE cf n N sc e).bind fun a => (trB cf n N sc op es).bind fun b => some (match op with
      | .And => .and a b
      | .Or => .or a b)
def trEs (cf : Cf) : Nat → List Str → Scope → List Expr → Option (List E)
  | 0, _, _, _ => none
  | _ + 1, _, _, [] => some []
  | n + 1, N, sc, e :: es => (trE cf n N sc e).bind fun a => (trEs cf n N sc es).bind fun r => some (a :: r)
def trF (cf : Cf) : Nat → List Str → Scope → List Expr → Option (List E)
  | 0, _, _, _ => none
  | _ + 1, _, _, [] => some []
  | n + 1, N, sc, e :: es => (match e with
    | .FormattedValue a (-1) none _ => trE cf n N sc a
    | .Constant (.str s) _ _ => if okB s.cps.toList then some (.cst (.str s.cps.toList)) else none
    | _ => none).bind fun a => (trF cf n N sc es).bind fun r => some (a :: r)
def trO (cf : Cf) : Nat → List Str → Scope → Option Expr → Option (Option E)
  | 0, _, _, _ => none
  | _ + 1, _, _, none => some none
  | n + 1, N, sc, some e => (trE cf n N sc e).map some
def trI (cf : Cf) : Nat → List Str → Scope → Expr → Option I
  | 0, _, _, _ => none
  | n + 1, N, sc, e => match e with
    | .Call (.Name x _) es kws _ => if glo? sc x && (ixOf cf.fns x).isNone && (ixOf cf.exs x).isNone && (decide (x = "range") || decide (x = "enumerate") || decide (x = "zip")) then (match es, kws with
        | [a], [] => if x = "range" then (trE cf n N sc a).map fun a => .range (.cst (.int 0)) a else if x = "enumerate" then (trE cf n N sc a).map fun a => .enum a 0 else none
        | [a, b], [] => if x = "range" then (trE cf n N sc a).bind fun a => (trE cf n N sc b).map fun b => .range a b else none
        | [a], [⟨some kw, .Constant (.int 1) _ _, _⟩] => if x = "enumerate" ∧ kw = "start" then (trE cf n N sc a).map fun a => .enum a 1 else none
        | [a, b], [⟨some kw, .Constant (.bool true) _ _, _⟩] => if x = "zip" ∧ kw = "strict" then (trE cf n N sc a).bind fun a => (trE cf n N sc b).map fun b => .zip a b else none
        | _, _ => none) else (trE cf n N sc e).map .ex
    | _ => (trE cf n N sc e).map .ex
end
def bothTup : Expr → Expr → Bool
  | .Tuple _ _ _, .Tuple _ _ _ => true
  | _, _ => false
def kupT (nds : List (Nat × Nat)) : Expr → Bool
  | .Tuple _ _ p => hasP nds p
  | _ => false
def isStar : Expr → Bool
  | .Starred _ _ => true
  | _ => false
def isTup : Expr → Bool
  | .Tuple _ _ _ => true
  | _ => false
def isLc : Expr → Bool
  | .ListComp _ _ _ _ => true
  | _ => false
def locK (sc : Scope) (x : Str) : Bool := match sc.names.lookup x with
  | some .local => true
  | _ => false
def fnSc (sc : Scope) : Bool := match sc.kind with
  | .function => true
  | _ => false
def notNm : Expr → Bool
  | .Name _ _ => false
  | _ => true
/-- a tuple to a tuple, stored in the order of the text -/
def parNo : Expr → Expr → Bool
  | .Tuple ts _ _, .Tuple vs _ _ => vs.all (foldedForSure 8) || ts.any notNm
  | _, _ => false
/-- two or three names of a function's own, stored from the right -/
def parOk (sc : Scope) (vs : List Expr) : Bool := fnSc sc && !vs.all (foldedForSure 8) && !vs.all (constantsAlone 8) && !vs.any isStar
def parSw (sc : Scope) : Expr → Expr → Bool
  | .Tuple [.Name x px, .Name y py] _ _, .Tuple [a, b] _ _ => parOk sc [a, b] && (locK sc x && locK sc y && decide (x ≠ y) && decide (py.line = px.line))
  | .Tuple [.Name x px, .Name y py, .Name z pz] _ _, .Tuple [a, b, c] _ _ => parOk sc [a, b, c] && (locK sc x && locK sc y && locK sc z && decide (x ≠ y) && decide (x ≠ z) && decide (y ≠ z) && decide (py.line = px.line) && decide (pz.line = px.line))
  | _, _ => false
/-- a, .., *x -/
def starOf : List Expr → Option (List Expr × Str × Pos × Pos)
  | [] => none
  | [.Starred (.Name x p) q] => some ([], x, p, q)
  | e :: es => (starOf es).map fun r => (e :: r.1, r.2)
def starT : Expr → Option (List Expr × Str × Pos × Pos)
  | .Tuple es _ _ => starOf es
  | _ => none
mutual
def trS (cf : Cf) : Nat → List Str → Scope → Stmt → Option S
  | 0, _, _, _ => none
  | n + 1, N, sc, s => match s with
    | .Assign [.Subscript o i _] e _ => (trE cf n N sc e).bind fun e => (trE cf n N sc o).bind fun o => (trE cf n N sc i).bind fun i => some (.sto o i e)
    | .Assign [t] e p => match starT t with
      | some (pre, x, px, _) => if cf.calm && !bothTup t e && !pre.any isStar then (trE cf n N sc e).bind fun e => (trTs false n N sc (pre ++ [.Name x px])).bind fun ts => some (.ast ts (hasP cf.nds p) e) else none
      | none => if (bothTup t e && !(parNo t e || (parSw sc t e && !kupT cf.nds e))) || isStar t || (isTup t && !cf.calm) then none else (trE cf n N sc e).bind fun e => (trT (hasP cf.nds p) n N sc t).bind fun t => some (.asg t e)
    | .Expr (.Constant (.str _) _ _) _ => some .pass
    | .Expr e _ => if isLc e then none else (trE cf n N sc e).map .ex
    | .Return none _ => some (.ret none)
    | .Return (some e) _ => (trE cf n N sc e).map fun e => .ret (some e)
    | .If c a b _ => (trE cf n N sc c).bind fun c => (trSs cf n N sc a).bind fun a => (trSs cf n N sc b).bind fun b => some (.ite c a b)
    | .For tg it body [] _ => (trI cf n N sc it).bind fun it => (trT false n N sc tg).bind fun t => (trSs cf n N sc body).bind fun b => if cf.calm && tgOk it tg then some (.for_ t it b) else none
    | .Raise (some (.Call (.Name x _) es [] _)) none _ => if glo? sc x && cf.calm then (ixOf cf.exs x).bind fun c => if cf.ars[c]? = some (some es.length) then (trEs cf n N sc es).map fun es => .rais c es else none else none
    | .Try body [.ExceptHandler (some (.Name x _)) (some y) (s0 :: suite) _] [] [] _ => if glo? sc x && cf.calm && (ixOf cf.fns x).isNone then (trSs cf n N sc body).bind fun b => (ixOf cf.exs x).bind fun c => (match sc.names.lookup y with
        | some .local => ixOf N y
        | _ => none).bind fun i => (trSs { cf with calm := false } n N sc (s0 :: suite)).bind fun su => some (.try_ b [.mk [c] (some i) su]) else none
    | .Assign [t1, t2] e _ => if isTup e || isStar t1 || isStar t2 || isLc e then none else (trE cf n N sc e).bind fun e => (trT false n N sc t1).bind fun t1 => (trT false n N sc t2).bind fun t2 => match t1, t2 with
      | .nm i, .nm j => some (.asg2 (.nm i) (.nm j) e)
      | _, _ => none
    | .AugAssign (.Name x _) op e _ => (match sc.names.lookup x with
        | some .local => ixOf N x
        | _ => none).bind fun i => (trE cf n N sc e).bind fun e => match op with
          | .Add => some (.aug i .Add e)
          | .Sub => some (.aug i .Sub e)
          | _ => none
    | .While c body [] _ => if cf.calm then (trE cf n N sc c).bind fun c => (trSs cf n N sc body).bind fun b => some (.whl c b) else none
    | .Pass _ => some .pass
    | .Break _ => some .brk
    | .Continue _ => some .cnt
    | _ => none
def trSs (cf : Cf) : Nat → List Str → Scope → List Stmt → Option (List S)
  | 0, _, _, _ => none
  | _ + 1, _, _, [] => some []
  | n + 1, N, sc, s :: ss => (trS cf n N sc s).bind fun a => (trSs cf n N sc ss).bind fun r => some (a :: r)
end
end L2.MP
namespace L2.MP
open PySem PySem.Spec PyProof.Rows
/-- what does not change through a proof: the written part, the exceptions' fields, the exception that a suite holds -/
structure FL where
  f : Nat → List Str
  ca : Nat → Addr
  fn : Nat → Str
instance : CoeFun FL fun _ => Nat → List Str := ⟨FL.f⟩
structure RB where
  K : PySem.W.Frag
  fl : FL
  xa : Option (Addr × Nat × Option Addr)
/-- a state: the abstract heap, where the nodes stand -/
structure RC where
  B : RB
  H : Hp
  loc : Nat → Addr
  ns : Hs
  pv : Addr → Prop
/-- the addresses of what may change -/
def RC.W (r : RC) (a : Addr) : Prop := (∃ i nd, r.ns[i]? = some nd ∧ r.loc i = a) ∨ r.pv a
/-- a list of the written part -/
def KLst (K : PySem.W.Frag) (a : Addr) (vs : List V) : Prop := ∃ (o : Obj) (its : Array Value) (n : Nat), K.lookup a = some o ∧ o.cls = .type "list" ∧ o.dict = none ∧ o.data = .seq its n ∧ its.size ≤ sizeLine ∧ Vals vs its.toList
def SqW (r : RC) (a : Addr) (vs : List V) : Prop := (Rd r.H a (.lst vs) ∧ ¬ r.W a) ∨ KLst r.B.K a vs
/-- a dict's key -/
def keyD : Key → D
  | .inl i => .int i
  | .inr x => .str x.cps.toList
def keyO : Key → Prop
  | .inl _ => True
  | .inr x => okS x.cps.toList
mutual
def RV (r : RC) : D → V → Prop
  | .non, v => v = .non
  | .bl b, v => v = .bl b
  | .int i, v => v = .int i
  | .str s, v => v = .str ⟨s.toArray⟩ ∧ okS s
  | .ref i, v => i < r.ns.length ∧ v = .ref (r.loc i)
  | .tup xs, v => ∃ a vs, v = .ref a ∧ SqT r.B.K r.H a vs ∧ RVs r xs vs
  | .lst xs, v => ∃ a vs, v = .ref a ∧ r.H a = some (.lst vs) ∧ ¬ r.W a ∧ RVs r xs vs
  | .exn c fs, v => ∃ a d, v = .ref a ∧ r.B.xa = some (a, c, d) ∧ ((d = none ∧ fs = []) ∨ ∃ dx vs, d = some dx ∧ fs ≠ [] ∧ r.H dx = some (.xd ((r.B.fl c).zip vs).reverse) ∧ vs.length = (r.B.fl c).length ∧ RVs r fs vs)
  | .dic ks vs, v => ∃ a, v = .ref a ∧ r.H a = some (.dK []) ∧ ¬ r.W a ∧ ks = [] ∧ vs = []
  | .scr ns, v => ∃ a, v = .ref a ∧ SqW r a (ns.map V.int)
  | .kup ks, v => ∃ (a : Addr) (k : List Key), v = .ref a ∧ r.H a = some (.tup (k.map kV)) ∧ ks = k.map keyD ∧ ∀ x ∈ k, keyO x
def RVs (r : RC) : List D → List V → Prop
  | [], vs => vs = []
  | x :: xs, vs => ∃ v ws, vs = v :: ws ∧ RV r x v ∧ RVs r xs ws
end
/-- what stands at a node -/
def RO (r : RC) (o : HO) : Nd → Prop
  | .lst xs => ∃ vs, o = .lst vs ∧ RVs r xs vs
  | .dic t ks vs => if t then (∃ kvs : List (List Key × V), o = .dT kvs ∧ ks = kvs.map (fun p => .tup (p.1.map keyD)) ∧ (∀ p ∈ kvs, ∀ k ∈ p.1, keyO k) ∧ RVs r vs (kvs.map (·.2)))
      else ∃ kvs : List (Key × V), o = .dK kvs ∧ ks = kvs.map (fun p => keyD p.1) ∧ (∀ p ∈ kvs, keyO p.1) ∧ RVs r vs (kvs.map (·.2))
  | .ins c fs => ∃ dx gs, o = .ins (r.B.fl.ca c) dx gs ∧ gs.map (·.1) = fs.map (fun p => r.B.fl.fn p.1) ∧ RVs r (fs.map (·.2)) (gs.map (·.2))
def RN (r : RC) (i : Nat) (nd : Nd) : Prop := ∃ o, r.H (r.loc i) = some o ∧ RO r o nd
/-- a list, a dict, an instance -/
def nodeO : HO → Prop
  | .lst _ => True
  | .dK _ => True
  | .dT _ => True
  | .ins _ _ _ => True
  | _ => False
structure Rep (r : RC) : Prop where
  inj : ∀ (i j : Nat), i < r.ns.length → j < r.ns.length → r.loc i = r.loc j → i = j
  nod : ∀ (i : Nat) (nd : Nd), r.ns[i]? = some nd → RN r i nd
  sep : ∀ (i : Nat) (nd : Nd), r.ns[i]? = some nd → ¬ r.pv (r.loc i)
  pvs : ∀ a, r.pv a → ∃ o, r.H a = some o ∧ nodeO o
def RS (r : RC) (sl : Sl) (σ : St) : Prop := sl.length = σ.length ∧ ∀ (i : Nat) (d : D), sl[i]? = some (some d) → ∃ v, σ[i]? = some (some v) ∧ RV r d v
theorem RN.lst {r : RC} {i : Nat} {xs : List D} : RN r i (.lst xs) → ∃ vs, r.H (r.loc i) = some (.lst vs) ∧ RVs r xs vs := fun ⟨o, h, vs, e, q⟩ => ⟨vs, by rw [h, e], q⟩
theorem RN.of {r : RC} {i : Nat} {xs : List D} {vs : List V} (h : r.H (r.loc i) = some (.lst vs)) (q : RVs r xs vs) : RN r i (.lst xs) := ⟨_, h, vs, rfl, q⟩
theorem RO.node {r : RC} {o : HO} : ∀ {nd : Nd}, RO r o nd → nodeO o
  | .lst _, ⟨_, e, _⟩ => e ▸ True.intro
  | .dic t ks vs, h => by
    cases t
    · obtain ⟨_, e, _⟩ := h; exact e ▸ True.intro
    · obtain ⟨_, e, _⟩ := h; exact e ▸ True.intro
  | .ins _ _, ⟨_, _, e, _⟩ => e ▸ True.intro
theorem RVs.nil {r : RC} : RVs r [] [] := by simp [RVs]
theorem RVs.cons {r : RC} {x : D} {xs : List D} {v : V} {vs : List V} (h : RV r x v) (hs : RVs r xs vs) : RVs r (x :: xs) (v :: vs) := by
  simp only [RVs]
  exact ⟨v, vs, rfl, h, hs⟩
theorem RVs.inv {r : RC} {x : D} {xs : List D} {vs : List V} (h : RVs r (x :: xs) vs) : ∃ v ws, vs = v :: ws ∧ RV r x v ∧ RVs r xs ws := by
  simpa only [RVs] using h
theorem RVs.invN {r : RC} {vs : List V} (h : RVs r [] vs) : vs = [] := by simpa only [RVs] using h
theorem RVs.length {r : RC} : ∀ {xs : List D} {vs : List V}, RVs r xs vs → xs.length = vs.length
  | [], _, h => by rw [RVs.invN h]; rfl
  | x :: xs, _, h => by
    obtain ⟨v, ws, rfl, _, h2⟩ := RVs.inv h
    simp [RVs.length h2]
theorem RVs.get {r : RC} : ∀ {xs : List D} {vs : List V} {i : Nat} {x : D}, RVs r xs vs → xs[i]? = some x → ∃ v, vs[i]? = some v ∧ RV r x v
  | [], _, _, _, h, e => by simp at e
  | x :: xs, _, 0, y, h, e => by
    obtain ⟨v, ws, rfl, h1, h2⟩ := RVs.inv h
    simp at e; subst e
    exact ⟨v, rfl, h1⟩
  | x :: xs, _, i + 1, y, h, e => by
    obtain ⟨v, ws, rfl, h1, h2⟩ := RVs.inv h
    obtain ⟨u, e2, h3⟩ := RVs.get (i := i) h2 (by simpa using e)
    exact ⟨u, by simpa using e2, h3⟩
theorem RVs.append {r : RC} : ∀ {xs ys : List D} {vs ws : List V}, RVs r xs vs → RVs r ys ws → RVs r (xs ++ ys) (vs ++ ws)
  | [], _, _, _, h, k => by rw [RVs.invN h]; exact k
  | x :: xs, _, _, _, h, k => by
    obtain ⟨v, ws, rfl, h1, h2⟩ := RVs.inv h
    exact RVs.cons h1 (RVs.append h2 k)
theorem RVs.take {r : RC} : ∀ {xs : List D} {vs : List V} (n : Nat), RVs r xs vs → RVs r (xs.take n) (vs.take n)
  | _, _, 0, _ => by simp [RVs]
  | [], _, n + 1, h => by rw [RVs.invN h]; simp [RVs]
  | x :: xs, _, n + 1, h => by
    obtain ⟨v, ws, rfl, h1, h2⟩ := RVs.inv h
    exact RVs.cons h1 (RVs.take n h2)
theorem RVs.drop {r : RC} : ∀ {xs : List D} {vs : List V} (n : Nat), RVs r xs vs → RVs r (xs.drop n) (vs.drop n)
  | _, _, 0, h => h
  | [], _, n + 1, h => by rw [RVs.invN h]; simp [RVs]
  | x :: xs, _, n + 1, h => by
    obtain ⟨v, ws, rfl, h1, h2⟩ := RVs.inv h
    exact RVs.drop n h2
theorem RVs.set {r : RC} : ∀ {xs : List D} {vs : List V} {x : D} {v : V} (i : Nat), RVs r xs vs → RV r x v → RVs r (xs.set i x) (vs.set i v)
  | [], _, _, _, _, h, _ => by rw [RVs.invN h]; simp [RVs]
  | y :: xs, _, _, _, 0, h, k => by
    obtain ⟨v, ws, rfl, h1, h2⟩ := RVs.inv h
    exact RVs.cons k h2
  | y :: xs, _, _, _, i + 1, h, k => by
    obtain ⟨v, ws, rfl, h1, h2⟩ := RVs.inv h
    exact RVs.cons h1 (RVs.set i h2 k)
theorem RVs.single {r : RC} {x : D} {vs : List V} (h : RVs r [x] vs) : ∃ v, vs = [v] ∧ RV r x v := by
  obtain ⟨v, ws, rfl, h1, h2⟩ := RVs.inv h
  rw [RVs.invN h2]
  exact ⟨v, rfl, h1⟩
theorem RVs.two {r : RC} {x y : D} {vs : List V} (h : RVs r [x, y] vs) : ∃ v w, vs = [v, w] ∧ RV r x v ∧ RV r y w := by
  obtain ⟨v, ws, rfl, h1, h2⟩ := RVs.inv h
  obtain ⟨w, rfl, h3⟩ := RVs.single h2
  exact ⟨v, w, rfl, h1, h3⟩
structure Ext0 (r r' : RC) : Prop where
  B : r'.B = r.B
  keep : ∀ a o, r.H a = some o → ¬ r.W a → r'.H a = some o
  own : ∀ a, r'.W a → r.W a ∨ r.H a = none
  loc : ∀ i, i < r.ns.length → r'.loc i = r.loc i
  len : r.ns.length ≤ r'.ns.length
structure Ext (r r' : RC) : Prop extends Ext0 r r' where
  pv : ∀ a, r.pv a → r'.pv a
  prv : ∀ a, r.pv a → r'.H a = r.H a
theorem Ext0.refl (r : RC) : Ext0 r r := ⟨rfl, fun _ _ h _ => h, fun _ h => .inl h, fun _ _ => rfl, Nat.le_refl _⟩
theorem Ext0.trans {r r1 r2 : RC} (a : Ext0 r r1) (b : Ext0 r1 r2) : Ext0 r r2 where
  B := b.B.trans a.B
  keep := fun c o h n => b.keep c o (a.keep c o h n) fun w => by
    rcases a.own c w with q | q
    · exact n q
    · rw [h] at q; cases q
  own := fun c w => by
    rcases b.own c w with q | q
    · exact a.own c q
    · cases e : r.H c with
      | none => exact .inr rfl
      | some o =>
        by_cases n : r.W c
        · exact .inl n
        · rw [a.keep c o e n] at q; cases q
  loc := fun i h => (b.loc i (Nat.lt_of_lt_of_le h a.len)).trans (a.loc i h)
  len := Nat.le_trans a.len b.len
theorem Ext.refl (r : RC) : Ext r r := ⟨⟨rfl, fun _ _ h _ => h, fun _ h => .inl h, fun _ _ => rfl, Nat.le_refl _⟩, fun _ h => h, fun _ _ => rfl⟩
theorem Ext.trans {r r1 r2 : RC} (a : Ext r r1) (b : Ext r1 r2) : Ext r r2 where
  B := b.B.trans a.B
  keep := fun c o h n => b.keep c o (a.keep c o h n) fun w => by
    rcases a.own c w with q | q
    · exact n q
    · rw [h] at q; cases q
  own := fun c w => by
    rcases b.own c w with q | q
    · exact a.own c q
    · cases e : r.H c with
      | none => exact .inr rfl
      | some o =>
        by_cases n : r.W c
        · exact .inl n
        · rw [a.keep c o e n] at q; cases q
  loc := fun i h => (b.loc i (Nat.lt_of_lt_of_le h a.len)).trans (a.loc i h)
  len := Nat.le_trans a.len b.len
  pv := fun c h => b.pv c (a.pv c h)
  prv := fun c h => (b.prv c (a.pv c h)).trans (a.prv c h)
theorem Rd.ext0 {r r' : RC} (e : Ext0 r r') {a : Addr} {u : HO} (h : Rd r.H a u) (n : ¬ r.W a) : Rd r'.H a u ∧ ¬ r'.W a := by
  have hn : r.H a ≠ none := by
    rcases h with h | ⟨o, h⟩ <;> rw [h] <;> simp
  refine ⟨?_, fun w => ?_⟩
  · rcases h with h | ⟨o, h⟩
    · exact .inl (e.keep a _ h n)
    · exact .inr ⟨o, e.keep a _ h n⟩
  · rcases e.own a w with q | q
    · exact n q
    · exact hn q
theorem SqW.ext0 {r r' : RC} (e : Ext0 r r') {a : Addr} {vs : List V} (h : SqW r a vs) : SqW r' a vs := by
  rcases h with ⟨h, n⟩ | h
  · exact .inl (Rd.ext0 e h n)
  · exact .inr (by rw [e.B]; exact h)
theorem SqW.sq {r : RC} {a : Addr} {vs : List V} (h : SqW r a vs) : SqL r.B.K r.H a vs := by
  rcases h with ⟨h, _⟩ | h
  · exact .inl h
  · exact .inr h
/-- what is no list does not stand among the nodes -/
theorem Rep.notW {r : RC} (R : Rep r) {a : Addr} {o : HO} (h : r.H a = some o) (n : ¬ nodeO o) : ¬ r.W a := by
  rintro (⟨i, nd, e, rfl⟩ | e)
  · obtain ⟨u, q, z⟩ := R.nod i _ e
    rw [h] at q
    cases q
    exact n z.node
  · obtain ⟨u, q, z⟩ := R.pvs a e
    rw [h] at q
    cases q
    exact n z
theorem SqT.ext0 {r r' : RC} (R : Rep r) (e : Ext0 r r') {a : Addr} {vs : List V} (h : SqT r.B.K r.H a vs) : SqT r'.B.K r'.H a vs := by
  rcases h with h | h
  · refine .inl ?_
    rcases h with h | ⟨o, h⟩
    · exact .inl (e.keep a _ h (R.notW h id))
    · exact .inr ⟨o, e.keep a _ h (R.notW h id)⟩
  · exact .inr (by rw [e.B]; exact h)
mutual
theorem RV.ext0 {r r' : RC} (R : Rep r) (e : Ext0 r r') : ∀ {d : D} {v : V}, RV r d v → RV r' d v
  | .non, _, h => by simpa only [RV] using h
  | .bl _, _, h => by simpa only [RV] using h
  | .int _, _, h => by simpa only [RV] using h
  | .str _, _, h => by simpa only [RV] using h
  | .ref i, _, h => by
    simp only [RV] at h ⊢
    exact ⟨Nat.lt_of_lt_of_le h.1 e.len, by rw [h.2, e.loc i h.1]⟩
  | .tup xs, _, h => by
    simp only [RV] at h ⊢
    obtain ⟨a, vs, rfl, h1, h2⟩ := h
    exact ⟨a, vs, rfl, SqT.ext0 R e h1, RVs.ext0 R e h2⟩
  | .lst xs, _, h => by
    simp only [RV] at h ⊢
    obtain ⟨a, vs, rfl, h1, h2, h3⟩ := h
    obtain ⟨q, n⟩ := Rd.ext0 e (.inl h1) h2
    exact ⟨a, vs, rfl, e.keep a _ h1 h2, n, RVs.ext0 R e h3⟩
  | .exn c fs, _, h => by
    simp only [RV] at h ⊢
    obtain ⟨a, d, rfl, h1, h2⟩ := h
    refine ⟨a, d, rfl, by rw [e.B]; exact h1, ?_⟩
    rcases h2 with h2 | ⟨dx, vs, rfl, hne, h3, h4, h5⟩
    · exact .inl h2
    · exact .inr ⟨dx, vs, rfl, hne, by rw [e.B]; exact e.keep _ _ h3 (R.notW h3 id), by rw [e.B]; exact h4, RVs.ext0 R e h5⟩
  | .dic ks vs, _, h => by
    simp only [RV] at h ⊢
    obtain ⟨a, rfl, h1, h3, h2⟩ := h
    exact ⟨a, rfl, e.keep _ _ h1 h3, (Rd.ext0 e (.inl h1) h3).2, h2⟩
  | .scr ns, _, h => by
    simp only [RV] at h ⊢
    obtain ⟨a, rfl, h1⟩ := h
    exact ⟨a, rfl, SqW.ext0 e h1⟩
  | .kup ks, _, h => by
    simp only [RV] at h ⊢
    obtain ⟨a, k, rfl, h1, h2, h3⟩ := h
    exact ⟨a, k, rfl, e.keep a _ h1 (R.notW h1 id), h2, h3⟩
theorem RVs.ext0 {r r' : RC} (R : Rep r) (e : Ext0 r r') : ∀ {xs : List D} {vs : List V}, RVs r xs vs → RVs r' xs vs
  | [], _, h => by rw [RVs.invN h]; exact RVs.nil
  | x :: xs, _, h => by
    obtain ⟨v, ws, rfl, h1, h2⟩ := RVs.inv h
    exact RVs.cons (RV.ext0 R e h1) (RVs.ext0 R e h2)
end
theorem RO.ext0 {r r' : RC} (R : Rep r) (e : Ext0 r r') {o : HO} : ∀ {nd : Nd}, RO r o nd → RO r' o nd
  | .lst _, ⟨vs, h, q⟩ => ⟨vs, h, RVs.ext0 R e q⟩
  | .dic t _ _, h => by
    cases t
    · obtain ⟨kvs, h1, h2, h3, h4⟩ := h; exact ⟨kvs, h1, h2, h3, RVs.ext0 R e h4⟩
    · obtain ⟨kvs, h1, h2, h3, h4⟩ := h; exact ⟨kvs, h1, h2, h3, RVs.ext0 R e h4⟩
  | .ins _ _, ⟨dx, gs, h1, h2, h3⟩ => ⟨dx, gs, by rw [e.B]; exact h1, by rw [e.B]; exact h2, RVs.ext0 R e h3⟩
theorem RN.ext0 {r r' : RC} (R : Rep r) (e : Ext0 r r') {i j : Nat} {nd : Nd} (h : RN r i nd) (k : r'.H (r'.loc j) = r.H (r.loc i)) : RN r' j nd :=
  let ⟨o, h1, h2⟩ := h; ⟨o, k.trans h1, RO.ext0 R e h2⟩
theorem RV.ext {r r' : RC} (R : Rep r) (e : Ext r r') {d : D} {v : V} (h : RV r d v) : RV r' d v := RV.ext0 R e.toExt0 h
theorem RVs.ext {r r' : RC} (R : Rep r) (e : Ext r r') {xs : List D} {vs : List V} (h : RVs r xs vs) : RVs r' xs vs := RVs.ext0 R e.toExt0 h
theorem RS.ext {r r' : RC} (R : Rep r) (e : Ext r r') {sl : Sl} {σ : St} (h : RS r sl σ) : RS r' sl σ :=
  ⟨h.1, fun i d q => let ⟨v, a, b⟩ := h.2 i d q; ⟨v, a, RV.ext R e b⟩⟩
theorem RN.at {r : RC} {i : Nat} {nd : Nd} (h : RN r i nd) : ∃ o, r.H (r.loc i) = some o := let ⟨o, h1, _⟩ := h; ⟨o, h1⟩
/-- a new thing that is no node -/
theorem Rep.alloc {r : RC} (R : Rep r) {p : Addr} {o : HO} (hp : r.H p = none) : Ext r { r with H := upd r.H p o } ∧ Rep { r with H := upd r.H p o } := by
  have e : Ext r { r with H := upd r.H p o } := ⟨⟨rfl, fun a u h _ => by
    show upd r.H p o a = some u
    rw [upd_ne (ne_of_none h hp)]; exact h, fun a h => .inl h, fun _ _ => rfl, Nat.le_refl _⟩, fun _ h => h, fun a h => by
    obtain ⟨vs, q, hno⟩ := R.pvs a h
    exact upd_ne (ne_of_none q hp)⟩
  refine ⟨e, R.inj, fun i nd q => ?_, R.sep, fun a h => by
    obtain ⟨vs, q, hno⟩ := R.pvs a h
    exact ⟨vs, (upd_ne (ne_of_none q hp)).trans q, hno⟩⟩
  have h := R.nod i nd q
  obtain ⟨u, h1⟩ := h.at
  exact RN.ext0 R e.toExt0 h (upd_ne (ne_of_none h1 hp))
theorem get_lt {α : Type} {l : List α} {i : Nat} {x : α} (h : l[i]? = some x) : i < l.length := (List.getElem?_eq_some_iff.mp h).1
theorem get_app {α : Type} {l : List α} {y : α} {i : Nat} {x : α} (h : (l ++ [y])[i]? = some x) : (i < l.length ∧ l[i]? = some x) ∨ (i = l.length ∧ x = y) := by
  by_cases hi : i < l.length
  · rw [List.getElem?_append_left hi] at h
    exact .inl ⟨hi, h⟩
  · have hl := get_lt h
    rw [List.length_append] at hl
    have e : i = l.length := by simp at hl; omega
    subst e
    rw [List.getElem?_append_right (Nat.le_refl _)] at h
    simp at h
    exact .inr ⟨rfl, h.symm⟩
def RC.growN (r : RC) (p : Addr) (o : HO) (nd : Nd) : RC := ⟨r.B, upd r.H p o, fun i => if i = r.ns.length then p else r.loc i, r.ns ++ [nd], r.pv⟩
abbrev RC.grow (r : RC) (p : Addr) (vs : List V) (xs : List D) : RC := r.growN p (.lst vs) (.lst xs)
/-- a new node -/
theorem Rep.nodeN {r : RC} (R : Rep r) {p : Addr} {nd0 : Nd} {o : HO} (hp : r.H p = none) (h : RO r o nd0) :
    Ext r (r.growN p o nd0) ∧ Rep (r.growN p o nd0) ∧ RV (r.growN p o nd0) (.ref r.ns.length) (.ref p) := by
  have nn : ∀ (i : Nat) nd, r.ns[i]? = some nd → r.loc i ≠ p := fun i nd q z => by
    obtain ⟨u, h2⟩ := (R.nod i nd q).at
    rw [z, hp] at h2; cases h2
  have ll : ∀ i, i < r.ns.length → (r.growN p o nd0).loc i = r.loc i := fun i hi => if_neg (Nat.ne_of_lt hi)
  have lp : (r.growN p o nd0).loc r.ns.length = p := if_pos rfl
  have pne : ∀ a, r.pv a → a ≠ p := fun a h => by
    obtain ⟨vs, q, hno⟩ := R.pvs a h
    exact ne_of_none q hp
  have e : Ext r (r.growN p o nd0) := ⟨⟨rfl, fun a u q _ => by
    show upd r.H p _ a = some u
    rw [upd_ne (ne_of_none q hp)]; exact q, fun a w => by
      rcases w with ⟨i, ys, q, rfl⟩ | w
      · rcases get_app q with ⟨hi, q⟩ | ⟨rfl, _⟩
        · rw [ll i hi]
          exact .inl (.inl ⟨i, ys, q, rfl⟩)
        · rw [lp]
          exact .inr hp
      · exact .inl (.inr w), ll, by show _ ≤ (r.ns ++ [nd0]).length; rw [List.length_append]; exact Nat.le_add_right _ _⟩, fun _ h => h, fun a h => upd_ne (pne a h)⟩
  refine ⟨e, ⟨fun i j hi hj z => ?_, fun i nd q => ?_, fun i nd q z => ?_, fun a h => ?_⟩, ?_⟩
  · have hi' : i < (r.ns ++ [nd0]).length := hi
    have hj' : j < (r.ns ++ [nd0]).length := hj
    rw [List.length_append, List.length_singleton] at hi' hj'
    by_cases ei : i = r.ns.length
    · by_cases ej : j = r.ns.length
      · rw [ei, ej]
      · have hj2 : j < r.ns.length := by omega
        rw [ei, lp, ll j hj2] at z
        obtain ⟨nd, q⟩ : ∃ nd, r.ns[j]? = some nd := ⟨_, List.getElem?_eq_getElem hj2⟩
        exact absurd z.symm (nn j nd q)
    · have hi2 : i < r.ns.length := by omega
      by_cases ej : j = r.ns.length
      · rw [ej, lp, ll i hi2] at z
        obtain ⟨nd, q⟩ : ∃ nd, r.ns[i]? = some nd := ⟨_, List.getElem?_eq_getElem hi2⟩
        exact absurd z (nn i nd q)
      · have hj2 : j < r.ns.length := by omega
        rw [ll i hi2, ll j hj2] at z
        exact R.inj i j hi2 hj2 z
  · rcases get_app q with ⟨hi, q⟩ | ⟨rfl, rfl⟩
    · have h1 := R.nod i nd q
      obtain ⟨u, h2⟩ := h1.at
      exact RN.ext0 R e.toExt0 h1 (by rw [ll i hi]; exact upd_ne (ne_of_none h2 hp))
    · exact ⟨o, by rw [lp]; exact upd_same, RO.ext0 R e.toExt0 h⟩
  · rcases get_app q with ⟨hi, q⟩ | ⟨rfl, rfl⟩
    · rw [ll i hi] at z
      exact R.sep i nd q z
    · rw [lp] at z
      exact pne p z rfl
  · obtain ⟨ws, q, hno⟩ := R.pvs a h
    exact ⟨ws, (upd_ne (pne a h)).trans q, hno⟩
  · simp only [RV]
    exact ⟨by show _ < (r.ns ++ [nd0]).length; rw [List.length_append]; simp, by rw [lp]⟩
theorem Rep.node {r : RC} (R : Rep r) {p : Addr} {xs : List D} {vs : List V} (hp : r.H p = none) (h : RVs r xs vs) :
    Ext r (r.grow p vs xs) ∧ Rep (r.grow p vs xs) ∧ RV (r.grow p vs xs) (.ref r.ns.length) (.ref p) := R.nodeN hp ⟨vs, rfl, h⟩
def RC.putN (r : RC) (i : Nat) (o : HO) (nd : Nd) : RC := ⟨r.B, upd r.H (r.loc i) o, r.loc, r.ns.set i nd, r.pv⟩
abbrev RC.put (r : RC) (i : Nat) (vs : List V) (xs : List D) : RC := r.putN i (.lst vs) (.lst xs)
theorem getV_set {α : Type} {l : List α} {i j : Nat} {x y : α} (h : (l.set i y)[j]? = some x) : (j = i ∧ x = y ∧ i < l.length) ∨ (j ≠ i ∧ l[j]? = some x) := by
  by_cases e : j = i
  · subst e
    have hl := get_lt h
    rw [List.length_set] at hl
    rw [List.getElem?_set_self hl] at h
    exact .inl ⟨rfl, (Option.some.inj h).symm, hl⟩
  · rw [List.getElem?_set_ne (Ne.symm e)] at h
    exact .inr ⟨e, h⟩
/-- a node is written -/
theorem Rep.putN {r : RC} (R : Rep r) {i : Nat} {nd1 nd0 : Nd} {o : HO} (hi : r.ns[i]? = some nd1) (h : RO r o nd0) : Ext r (r.putN i o nd0) ∧ Rep (r.putN i o nd0) := by
  obtain ⟨u1, h1⟩ := (R.nod i _ hi).at
  have e : Ext r (r.putN i o nd0) := ⟨⟨rfl, fun a u q n => by
    show upd r.H (r.loc i) _ a = some u
    rw [upd_ne fun z => n (.inl ⟨i, nd1, hi, z.symm⟩)]; exact q, fun a w => by
      rcases w with ⟨j, zs, q, rfl⟩ | w
      · rcases getV_set (show (r.ns.set i nd0)[j]? = some zs from q) with ⟨rfl, _, _⟩ | ⟨_, q⟩
        · exact .inl (.inl ⟨j, nd1, hi, rfl⟩)
        · exact .inl (.inl ⟨j, zs, q, rfl⟩)
      · exact .inl (.inr w), fun _ _ => rfl, by show _ ≤ (r.ns.set i _).length; rw [List.length_set]; exact Nat.le_refl _⟩, fun _ h => h, fun a h => upd_ne fun z : a = r.loc i => R.sep i _ hi (by rw [← z]; exact h)⟩
  refine ⟨e, ⟨fun a b ha hb z => R.inj a b (by have q : a < (r.ns.set i nd0).length := ha; rw [List.length_set] at q; exact q) (by have q : b < (r.ns.set i nd0).length := hb; rw [List.length_set] at q; exact q) z, fun j nd q => ?_, fun j nd q z => ?_, fun a h => ?_⟩⟩
  rotate_left
  · rcases getV_set (show (r.ns.set i nd0)[j]? = some nd from q) with ⟨rfl, _, _⟩ | ⟨_, q⟩
    · exact R.sep j _ hi z
    · exact R.sep j _ q z
  · obtain ⟨us, q, hno⟩ := R.pvs a h
    exact ⟨us, (upd_ne fun z : a = r.loc i => R.sep i _ hi (by rw [← z]; exact h)).trans q, hno⟩
  rcases getV_set (show (r.ns.set i nd0)[j]? = some nd from q) with ⟨rfl, rfl, _⟩ | ⟨ne, q⟩
  · exact ⟨o, upd_same, RO.ext0 R e.toExt0 h⟩
  · exact RN.ext0 R e.toExt0 (R.nod j nd q) (upd_ne fun z => ne (R.inj j i (get_lt q) (get_lt hi) z))
theorem Rep.put {r : RC} (R : Rep r) {i : Nat} {nd1 : Nd} {xs : List D} {vs : List V} (hi : r.ns[i]? = some nd1) (h : RVs r xs vs) : Ext r (r.put i vs xs) ∧ Rep (r.put i vs xs) := R.putN hi ⟨vs, rfl, h⟩
/-- a private list -/
def RC.priv (r : RC) (p : Addr) (vs : List V) : RC := ⟨r.B, upd r.H p (.lst vs), r.loc, r.ns, fun a => r.pv a ∨ a = p⟩
theorem Rep.priv {r : RC} (R : Rep r) {p : Addr} {vs : List V} (hp : r.H p = none) : Ext r (r.priv p vs) ∧ Rep (r.priv p vs) := by
  have pne : ∀ a, r.pv a → a ≠ p := fun a h => by
    obtain ⟨vs, q, hno⟩ := R.pvs a h
    exact ne_of_none q hp
  have e : Ext r (r.priv p vs) := ⟨⟨rfl, fun a u h _ => by
    show upd r.H p _ a = some u
    rw [upd_ne (ne_of_none h hp)]; exact h, fun a w => by
      rcases w with w | w | rfl
      · exact .inl (.inl w)
      · exact .inl (.inr w)
      · exact .inr hp, fun _ _ => rfl, Nat.le_refl _⟩, fun _ h => .inl h, fun a h => upd_ne (pne a h)⟩
  refine ⟨e, R.inj, fun i nd q => ?_, fun i nd q z => ?_, fun a h => ?_⟩
  · have h := R.nod i nd q
    obtain ⟨u, h1⟩ := h.at
    exact RN.ext0 R e.toExt0 h (upd_ne (ne_of_none h1 hp))
  · rcases z with z | z
    · exact R.sep i nd q z
    · obtain ⟨u, h1⟩ := (R.nod i nd q).at
      have z' : r.loc i = p := z
      rw [z', hp] at h1; cases h1
  · rcases h with h | rfl
    · obtain ⟨ws, q, hno⟩ := R.pvs a h
      exact ⟨ws, (upd_ne (pne a h)).trans q, hno⟩
    · exact ⟨_, upd_same, trivial⟩
/-- a private list written -/
theorem Rep.tick {r : RC} (R : Rep r) {p : Addr} {vs : List V} (hp : r.pv p) : Ext0 r { r with H := upd r.H p (.lst vs) } ∧ Rep { r with H := upd r.H p (.lst vs) } := by
  have e : Ext0 r { r with H := upd r.H p (.lst vs) } := ⟨rfl, fun a u h n => by
    show upd r.H p _ a = some u
    rw [upd_ne fun z : a = p => n (.inr (z ▸ hp))]; exact h, fun a w => .inl w, fun _ _ => rfl, Nat.le_refl _⟩
  refine ⟨e, R.inj, fun i nd q => ?_, R.sep, fun a h => ?_⟩
  · exact RN.ext0 R e (R.nod i nd q) (upd_ne fun z : r.loc i = p => R.sep i _ q (by rw [z]; exact hp))
  · by_cases z : a = p
    · subst z; exact ⟨_, upd_same, trivial⟩
    · obtain ⟨us, h1, hno⟩ := R.pvs a h
      exact ⟨us, (upd_ne z).trans h1, hno⟩
/-- a private list shown -/
def RC.show (r : RC) (p : Addr) : RC := { r with pv := fun a => r.pv a ∧ a ≠ p }
theorem Rep.show {r : RC} (R : Rep r) (p : Addr) : Ext0 r (r.show p) ∧ Rep (r.show p) := by
  have e : Ext0 r (r.show p) := ⟨rfl, fun _ _ h _ => h, fun a w => by
    rcases w with w | w
    · exact .inl (.inl w)
    · exact .inl (.inr w.1), fun _ _ => rfl, Nat.le_refl _⟩
  exact ⟨e, R.inj, fun i nd q => RN.ext0 R e (R.nod i nd q) rfl, fun i nd q z => R.sep i nd q z.1, fun a h => R.pvs a h.1⟩
end L2.MP
namespace L2.MP
open PySem PySem.Spec PyProof.Rows
def TM (X : Cx) (e : Expr) : TE := fun σ H Q => ∀ (pins : List (Addr × Obj)) (s : Shared), Inv X pins σ H s → wpAny (model X.prog X.w) X.A (eval e X.env) (EP X pins σ Q) X.xe s
theorem pe_tm {X : Cx} {e : Expr} : PE X e (TM X e) := ⟨fun pins s _ _ _ I h => h pins s I⟩
theorem TM.of {X : Cx} {e : Expr} {t : TE} {σ : St} {H : Hp} {Q : VK} (h : PE X e t) (q : t σ H Q) : TM X e σ H Q := fun pins s I => h.run pins s σ H Q I q
theorem EP.mono {X : Cx} {pins : List (Addr × Obj)} {σ : St} {Q Q' : VK} (h : ∀ v H, Q v H → Q' v H) {u : Value} {s : Shared} (q : EP X pins σ Q u s) : EP X pins σ Q' u s :=
  let ⟨v, H', I, r, q⟩ := q; ⟨v, H', I, r, h _ _ q⟩
theorem TM.mono {X : Cx} {e : Expr} {σ : St} {H : Hp} {Q Q' : VK} (q : TM X e σ H Q) (h : ∀ v H, Q v H → Q' v H) : TM X e σ H Q' := fun pins s I => thn (q pins s I) fun _ _ z => EP.mono h z
def OM (X : Cx) (f : Value → Value → Sem Value) (σ : St) : R2 := fun x y H Q => ∀ (pins : List (Addr × Obj)) (s : Shared) (v u : Value), Inv X pins σ H s → RelV x v → RelV y u → wpAny (model X.prog X.w) X.A (f v u) (EP X pins σ Q) X.xe s
theorem OM.of {X : Cx} {f : Value → Value → Sem Value} {r : R2} (h : OpR X f r) {σ : St} {x y : V} {H : Hp} {Q : VK} (q : r x y H Q) : OM X f σ x y H Q := fun pins s v u I rx ry => h pins s σ H x y v u Q I rx ry q
/-- a builtin called -/
def CM (X : Cx) (f : Value) (σ : St) : List V → Hp → VK → Prop := fun xs H Q => ∀ (pins : List (Addr × Obj)) (s : Shared) (us : List Value), Inv X pins σ H s → Vals xs us → wpAny (model X.prog X.w) X.A (call f us) (EP X pins σ Q) X.xe s
theorem CM.of {X : Cx} {f : Value} {r : List V → Hp → VK → Prop} (h : CallR X f r) {σ : St} {xs : List V} {H : Hp} {Q : VK} (q : r xs H Q) : CM X f σ xs H Q := fun pins s us I rx => h pins s σ H xs us Q I rx q
theorem TM.bin {X : Cx} {a b : Expr} {op : Operator} {pos : Pos} {σ : St} {H : Hp} {Q : VK} (h : TM X a σ H fun x H1 => TM X b σ H1 fun y H2 => OM X (binaryOp op) σ x y H2 Q) : TM X (.BinOp a op b pos) σ H Q := fun pins s I =>
  wpAny_BinOp (binT pe_tm pe_tm I h fun v u s2 x y H2 I2 rx ry q => q pins s2 v u I2 rx ry)
theorem TM.cmp {X : Cx} {a b : Expr} {op : CmpOp} {pos : Pos} {σ : St} {H : Hp} {Q : VK} (hm : behindInMarks op b = false) (h : TM X a σ H fun x H1 => TM X b σ H1 fun y H2 => OM X (compareOp op) σ x y H2 Q) :
    TM X (.Compare a [op] [b] pos) σ H Q := fun pins s I =>
  wpAny_Compare1 (binT pe_tm pe_tm I h fun v u s2 x y H2 I2 rx ry q => q pins s2 v u I2 rx ry) hm
/-- an exception's own dict -/
def ExR (r : RC) (c : Nat) (fs : List D) (d : Option Addr) : Prop := (d = none ∧ fs = []) ∨ ∃ dx vs, d = some dx ∧ fs ≠ [] ∧ r.H dx = some (.xd ((r.B.fl c).zip vs).reverse) ∧ vs.length = (r.B.fl c).length ∧ RVs r fs vs
/-- the class of the c-th exception -/
abbrev EC := Nat → Value
def Good {α β : Type} (ec : EC) (rel : RC → α → β → Prop) (r : RC) (σ : St) (Q : β → Hp → Prop) (W : WX) : R α → Prop
  | .ok a h => ∀ r' b, r'.ns = h → Ext r r' → Rep r' → rel r' a b → Q b r'.H
  | .exc c fs h => ∀ r' d, r'.ns = h → Ext r r' → Rep r' → ExR r' c fs d → W (ec c) d σ r'.H
  | .bad => False
section
variable {α β γ δ : Type} {ec : EC} {rel : RC → α → β → Prop} {rel2 : RC → γ → δ → Prop} {r r' : RC} {σ : St} {Q : β → Hp → Prop} {Q2 : δ → Hp → Prop} {W : WX}
theorem Good.ext {x : R α} (e : Ext r r') (h : Good ec rel r σ Q W x) : Good ec rel r' σ Q W x := by
  cases x with
  | ok a h' => exact fun r2 b n e2 R q => h r2 b n (e.trans e2) R q
  | exc c fs h' => exact fun r2 d n e2 R q => h r2 d n (e.trans e2) R q
  | bad => exact h
/-- a first step, and what follows it -/
theorem Good.step {x : R α} {f : α → Hs → R γ} (h : Good ec rel2 r σ Q2 W (x.bind f))
    (k : ∀ a h1 r1 b, x = .ok a h1 → r1.ns = h1 → Ext r r1 → Rep r1 → rel r1 a b → Good ec rel2 r1 σ Q2 W (f a h1) → Q b r1.H) : Good ec rel r σ Q W x := by
  cases x with
  | ok a h1 => exact fun r1 b n e R q => k a h1 r1 b rfl n e R q (Good.ext e h)
  | exc c fs h1 => exact h
  | bad => exact h
theorem Good.of {o : Option γ} {f : γ → Hs → R α} {h : Hs} (g : Good ec rel r σ Q W ((R.of o h).bind f)) : ∃ a, o = some a ∧ Good ec rel r σ Q W (f a h) := by
  cases o with
  | none => exact False.elim g
  | some a => exact ⟨a, rfl, g⟩
theorem Good.ite {c : Prop} [Decidable c] {x : R α} (g : Good ec rel r σ Q W (if c then x else .bad)) : c ∧ Good ec rel r σ Q W x := by
  by_cases h : c
  · rw [if_pos h] at g; exact ⟨h, g⟩
  · rw [if_neg h] at g; exact False.elim g
theorem Good.nox {x : R α} (h : Good ec rel r σ Q W x.nox) : Good ec rel r σ Q (fun _ _ _ _ => False) x.nox := by
  cases x with
  | ok a h1 => exact h
  | exc c fs h1 => exact h
  | bad => exact h
end
abbrev GV (ec : EC) := Good ec RV
abbrev eqR {α : Type} (_ : RC) (a b : α) : Prop := a = b
structure XOk (B : RB) (k : Nat) (X : Cx) : Prop where
  K : X.K = B.K
  nd : X.N.Nodup
  room : X.A.units + 100 < cLine
theorem lstV_inv {r : RC} (R : Rep r) {d : D} {xs : List D} {v : V} (h : lstV r.ns d = some xs) (q : RV r d v) : ∃ a vs, v = .ref a ∧ r.H a = some (.lst vs) ∧ RVs r xs vs := by
  cases d with
  | lst ys =>
    cases h
    simp only [RV] at q
    obtain ⟨a, vs, rfl, h1, _, h2⟩ := q
    exact ⟨a, vs, rfl, h1, h2⟩
  | ref i =>
    simp only [RV] at q
    obtain ⟨_, rfl⟩ := q
    simp only [lstV] at h
    cases e : r.ns[i]? with
    | none => rw [e] at h; cases h
    | some nd =>
      rw [e] at h
      cases nd with
      | lst ys =>
        cases h
        obtain ⟨vs, h1, h2⟩ := (R.nod i _ e).lst
        exact ⟨_, vs, rfl, h1, h2⟩
      | _ => cases h
  | _ => cases h
theorem seqV_inv {r : RC} (R : Rep r) {d : D} {xs : List D} {v : V} (h : seqV r.ns d = some xs) (q : RV r d v) : ∃ a vs, v = .ref a ∧ (SqL r.B.K r.H a vs ∨ SqT r.B.K r.H a vs) ∧ RVs r xs vs := by
  cases d with
  | tup ys =>
    cases h
    simp only [RV] at q
    obtain ⟨a, vs, rfl, h1, h2⟩ := q
    exact ⟨a, vs, rfl, .inr h1, h2⟩
  | lst ys =>
    obtain ⟨a, vs, rfl, h1, h2⟩ := lstV_inv (d := .lst ys) R h q
    exact ⟨a, vs, rfl, .inl (SqL.of h1), h2⟩
  | ref i =>
    obtain ⟨a, vs, rfl, h1, h2⟩ := lstV_inv (d := .ref i) R h q
    exact ⟨a, vs, rfl, .inl (SqL.of h1), h2⟩
  | _ => cases h
theorem rv_int {r : RC} {i : Int} {v : V} (h : RV r (.int i) v) : v = .int i := by simpa only [RV] using h
theorem rv_str {r : RC} {s : List Nat} {v : V} (h : RV r (.str s) v) : v = .str ⟨s.toArray⟩ ∧ okS s := by simpa only [RV] using h
theorem rv_bl {r : RC} {b : Bool} {v : V} (h : RV r (.bl b) v) : v = .bl b := by simpa only [RV] using h
theorem rv_non {r : RC} {v : V} (h : RV r .non v) : v = .non := by simpa only [RV] using h
theorem mk_int {r : RC} (i : Int) : RV r (.int i) (.int i) := by simp only [RV]
theorem mk_str {r : RC} {s : List Nat} (h : okS s) : RV r (.str s) (.str ⟨s.toArray⟩) := by simp only [RV]; exact ⟨trivial, h⟩
theorem mk_bl {r : RC} (b : Bool) : RV r (.bl b) (.bl b) := by simp only [RV]
theorem mk_non {r : RC} : RV r .non .non := by simp only [RV]
/-- a new frozen list, a new tuple -/
theorem new_lst {r : RC} (R : Rep r) {p : Addr} {xs : List D} {vs : List V} (hp : r.H p = none) (h : RVs r xs vs) : Ext r { r with H := upd r.H p (.lst vs) } ∧ Rep { r with H := upd r.H p (.lst vs) } ∧ RV { r with H := upd r.H p (.lst vs) } (.lst xs) (.ref p) := by
  obtain ⟨e, R'⟩ := R.alloc (o := .lst vs) hp
  refine ⟨e, R', ?_⟩
  simp only [RV]
  refine ⟨p, vs, rfl, upd_same, ?_, RVs.ext R e h⟩
  rintro (⟨i, ys, q, z⟩ | q)
  · obtain ⟨ws, h1⟩ := (R.nod i _ q).at
    have z' : r.loc i = p := z
    rw [z', hp] at h1; cases h1
  · obtain ⟨ws, h1, _⟩ := R.pvs p q
    rw [hp] at h1; cases h1
theorem new_tup {r : RC} (R : Rep r) {p : Addr} {xs : List D} {vs : List V} (hp : r.H p = none) (h : RVs r xs vs) : Ext r { r with H := upd r.H p (.tup vs) } ∧ Rep { r with H := upd r.H p (.tup vs) } ∧ RV { r with H := upd r.H p (.tup vs) } (.tup xs) (.ref p) := by
  obtain ⟨e, R'⟩ := R.alloc (o := .tup vs) hp
  refine ⟨e, R', ?_⟩
  simp only [RV]
  exact ⟨p, vs, rfl, .inl (.inl upd_same), RVs.ext R e h⟩
/-- a list is made: frozen, or a node -/
theorem mk_lstOf {ec : EC} {r : RC} {σ : St} {Q : VK} {W : WX} {nd : Bool} {xs : List D} {vs : List V} (R : Rep r) (h : RVs r xs vs) (g : GV ec r σ Q W (lstOf nd xs r.ns)) {p : Addr} (hp : r.H p = none) : Q (.ref p) (upd r.H p (.lst vs)) := by
  cases nd with
  | false =>
    obtain ⟨e, R', q⟩ := new_lst R hp h
    exact g { r with H := upd r.H p (.lst vs) } (.ref p) rfl e R' q
  | true =>
    obtain ⟨e, R', q⟩ := R.node hp h
    exact g (r.grow p vs xs) (.ref p) rfl e R' q
theorem le_line {n : Nat} (h : n ≤ lim) : n ≤ sizeLine := Nat.le_trans h (by decide)
theorem lt_line {n : Nat} (h : n < lim) : n < sizeLine := Nat.lt_of_lt_of_le h (by decide)
theorem str_app (s t : List Nat) : ((⟨s.toArray⟩ : Str) ++ (⟨t.toArray⟩ : Str)) = ⟨(s ++ t).toArray⟩ := by
  show Str.append _ _ = _
  unfold Str.append
  simp
theorem key_inv {r : RC} {d : D} {v : V} (hk : keyOk d = true) (h : RV r d v) : ∃ k : Key, v = kV k ∧ keyD k = d ∧ keyO k := by
  cases d <;> first | (cases hk; done) | skip
  · exact ⟨.inl _, rv_int h, rfl, trivial⟩
  · obtain ⟨rfl, o⟩ := rv_str h
    exact ⟨.inr _, rfl, rfl, o⟩
theorem keyD_inj {a b : Key} (h : keyD a = keyD b) : a = b := by
  cases a <;> cases b <;> simp only [keyD, D.int.injEq, D.str.injEq, reduceCtorEq] at h
  · rw [h]
  · rename_i x y
    obtain ⟨x⟩ := x
    obtain ⟨y⟩ := y
    have : x = y := by
      have h : x.toList = y.toList := h
      exact Array.toList_inj.mp h
    rw [this]
section
variable {κ : Type} [DecidableEq κ] {kd : κ → D} (hi : ∀ {a b : κ}, kd a = kd b → a = b)
include hi
theorem getK_valG {r : RC} {k : κ} : ∀ {kvs : List (κ × V)} {vs : List D}, RVs r vs (kvs.map (·.2)) → (∀ x, getK (kd k) (kvs.map fun p => kd p.1) vs = some x → ∃ v, valV kvs k = some v ∧ RV r x v) ∧ (getK (kd k) (kvs.map fun p => kd p.1) vs = none → valV kvs k = none)
  | [], [], _ => ⟨(fun x e => by simp [getK] at e), fun _ => rfl⟩
  | [], _ :: _, h => by
    obtain ⟨_, _, e, _⟩ := RVs.inv h
    cases e
  | p :: kvs, [], h => by
    have := RVs.invN h
    cases this
  | p :: kvs, v :: vs, h => by
    obtain ⟨w, ws, e, h1, h2⟩ := RVs.inv h
    simp only [List.map_cons, List.cons.injEq] at e
    obtain ⟨e1, e2⟩ := e
    subst e1
    subst e2
    simp only [List.map_cons, getK]
    by_cases e : p.1 = k
    · rw [if_pos (by rw [e])]
      refine ⟨fun x q => ?_, fun q => by cases q⟩
      cases q
      exact ⟨_, valV_pos e, h1⟩
    · rw [if_neg fun z => e (hi z), valV_neg e]
      exact getK_valG h2
theorem mem_valG {k : κ} : ∀ {kvs : List (κ × V)}, decide (kd k ∈ kvs.map fun p => kd p.1) = (valV kvs k).isSome
  | [] => rfl
  | p :: kvs => by
    by_cases e : p.1 = k
    · rw [valV_pos e]
      simp [e]
    · rw [valV_neg e, ← mem_valG (kvs := kvs)]
      have : ¬ kd k = kd p.1 := fun z => e (hi z).symm
      simp only [List.map_cons, List.mem_cons, this, false_or]
theorem setK_valG {r : RC} {k : κ} {x : D} {w : V} (hx : RV r x w) : ∀ {kvs : List (κ × V)} {vs : List D}, RVs r vs (kvs.map (·.2)) → RVs r (setK (kd k) x (kvs.map fun p => kd p.1) vs) ((kvs.map fun kv => if kv.1 = k then (kv.1, w) else kv).map (·.2))
  | [], vs, h => by
    cases vs with
    | nil => exact RVs.nil
    | cons _ _ =>
      obtain ⟨_, _, e, _⟩ := RVs.inv h
      cases e
  | p :: kvs, [], h => by
    have := RVs.invN h
    cases this
  | p :: kvs, v :: vs, h => by
    obtain ⟨w', ws, e, h1, h2⟩ := RVs.inv h
    simp only [List.map_cons, List.cons.injEq] at e
    obtain ⟨e1, e2⟩ := e
    subst e1
    subst e2
    simp only [List.map_cons, setK]
    refine RVs.cons ?_ (setK_valG hx h2)
    by_cases e : p.1 = k
    · rw [if_pos (by rw [e]), if_pos e]
      exact hx
    · rw [if_neg fun z => e (hi z), if_neg e]
      exact h1
theorem put_valG {r : RC} {k : κ} {x : D} {w : V} (hx : RV r x w) {ko : κ → Prop} (hk : ko k) {kvs : List (κ × V)} {vs : List D} (ho : ∀ p ∈ kvs, ko p.1) (h : RVs r vs (kvs.map (·.2))) :
    (putKD (kd k) x (kvs.map fun p => kd p.1) vs).1 = (putK kvs k w).map (fun p => kd p.1) ∧ (∀ p ∈ putK kvs k w, ko p.1) ∧ RVs r (putKD (kd k) x (kvs.map fun p => kd p.1) vs).2 ((putK kvs k w).map (·.2)) := by
  unfold putKD putK
  have e := mem_valG hi (k := k) (kvs := kvs)
  have e2 := valV_any k kvs
  by_cases hm : kd k ∈ kvs.map fun p => kd p.1
  · have e3 : (kvs.any fun kv => decide (kv.1 = k)) = true := by rw [e2, ← e]; exact decide_eq_true hm
    rw [if_pos hm, if_pos e3]
    refine ⟨?_, fun p hp => ?_, setK_valG hi hx h⟩
    · rw [List.map_map]
      refine List.map_congr_left fun p _ => ?_
      simp only [Function.comp]
      split <;> rfl
    · obtain ⟨q, hq, rfl⟩ := List.mem_map.mp hp
      split
      · exact ho q hq
      · exact ho q hq
  · have e3 : ¬ (kvs.any fun kv => decide (kv.1 = k)) = true := by rw [e2, ← e]; simpa using hm
    rw [if_neg hm, if_neg e3]
    refine ⟨by simp, fun p hp => ?_, ?_⟩
    · rcases List.mem_append.mp hp with hp | hp
      · exact ho p hp
      · rw [List.mem_singleton.mp hp]
        exact hk
    · rw [List.map_append]
      exact h.append (RVs.cons hx RVs.nil)
end
theorem getK_val {r : RC} {k : Key} {kvs : List (Key × V)} {vs : List D} (h : RVs r vs (kvs.map (·.2))) : (∀ x, getK (keyD k) (kvs.map fun p => keyD p.1) vs = some x → ∃ v, valV kvs k = some v ∧ RV r x v) ∧ (getK (keyD k) (kvs.map fun p => keyD p.1) vs = none → valV kvs k = none) := getK_valG keyD_inj h
theorem mem_val {k : Key} {kvs : List (Key × V)} : decide (keyD k ∈ kvs.map fun p => keyD p.1) = (valV kvs k).isSome := mem_valG keyD_inj
theorem dic_inv {r : RC} (R : Rep r) {x : D} {v : V} {ks vs : List D} (hd : dicN r.ns x = some (ks, vs)) (h : RV r x v) : ∃ (i : Nat) (kvs : List (Key × V)), x = .ref i ∧ v = .ref (r.loc i) ∧ r.ns[i]? = some (.dic false ks vs) ∧ r.H (r.loc i) = some (.dK kvs) ∧ ks = kvs.map (fun p => keyD p.1) ∧ (∀ p ∈ kvs, keyO p.1) ∧ RVs r vs (kvs.map (·.2)) := by
  cases x <;> first | (cases hd; done) | skip
  rename_i i
  simp only [RV] at h
  obtain ⟨_, rfl⟩ := h
  simp only [dicN, Option.bind_eq_some_iff] at hd
  obtain ⟨nd, e, q⟩ := hd
  cases nd with
  | dic t ks' vs' =>
    cases t
    · cases q
      obtain ⟨o, h1, kvs, rfl, h2, h3, h4⟩ := R.nod i _ e
      exact ⟨i, kvs, rfl, rfl, e, h1, h2, h3, h4⟩
    · cases q
  | _ => cases q
theorem put_val {r : RC} {k : Key} {x : D} {w : V} (hx : RV r x w) (hk : keyO k) {kvs : List (Key × V)} {vs : List D} (ho : ∀ p ∈ kvs, keyO p.1) (h : RVs r vs (kvs.map (·.2))) :
    (putKD (keyD k) x (kvs.map fun p => keyD p.1) vs).1 = (putK kvs k w).map (fun p => keyD p.1) ∧ (∀ p ∈ putK kvs k w, keyO p.1) ∧ RVs r (putKD (keyD k) x (kvs.map fun p => keyD p.1) vs).2 ((putK kvs k w).map (·.2)) := put_valG keyD_inj (ko := keyO) hx hk ho h
/-- a tuple as a key -/
def keyT (k : List Key) : D := .tup (k.map keyD)
theorem keyT_inj {a b : List Key} (h : keyT a = keyT b) : a = b := by
  unfold keyT at h
  injection h with h
  induction a generalizing b with
  | nil =>
    cases b with
    | nil => rfl
    | cons => cases h
  | cons x a ih =>
    cases b with
    | nil => cases h
    | cons y b =>
      simp only [List.map_cons, List.cons.injEq] at h
      rw [keyD_inj h.1, ih h.2]
theorem dicT_inv {r : RC} (R : Rep r) {x : D} {v : V} {ks vs : List D} (hd : dicT r.ns x = some (ks, vs)) (h : RV r x v) : ∃ (i : Nat) (kvs : List (List Key × V)), x = .ref i ∧ v = .ref (r.loc i) ∧ r.ns[i]? = some (.dic true ks vs) ∧ r.H (r.loc i) = some (.dT kvs) ∧ ks = kvs.map (fun p => keyT p.1) ∧ (∀ p ∈ kvs, ∀ k ∈ p.1, keyO k) ∧ RVs r vs (kvs.map (·.2)) := by
  cases x <;> first | (cases hd; done) | skip
  rename_i i
  simp only [RV] at h
  obtain ⟨_, rfl⟩ := h
  simp only [dicT, Option.bind_eq_some_iff] at hd
  obtain ⟨nd, e, q⟩ := hd
  cases nd with
  | dic t ks' vs' =>
    cases t
    · cases q
    · cases q
      obtain ⟨o, h1, kvs, rfl, h2, h3, h4⟩ := R.nod i _ e
      exact ⟨i, kvs, rfl, rfl, e, h1, h2, h3, h4⟩
  | _ => cases q
theorem kup_inv {r : RC} {ks : List D} {v : V} (h : RV r (.kup ks) v) : ∃ (a : Addr) (k : List Key), v = .ref a ∧ r.H a = some (.tup (k.map kV)) ∧ D.tup ks = keyT k ∧ ∀ x ∈ k, keyO x := by
  simp only [RV] at h
  obtain ⟨a, k, h1, h2, rfl, h3⟩ := h
  exact ⟨a, k, h1, h2, rfl, h3⟩
theorem keys_inv {r : RC} : ∀ {xs : List D} {vs : List V}, xs.all keyOk = true → RVs r xs vs → ∃ k : List Key, vs = k.map kV ∧ xs = k.map keyD ∧ ∀ x ∈ k, keyO x
  | [], vs, _, h => ⟨[], by rw [RVs.invN h]; rfl, rfl, fun _ h => nomatch h⟩
  | x :: xs, vs, a, h => by
    simp only [List.all_cons, Bool.and_eq_true] at a
    obtain ⟨v, ws, rfl, h1, h2⟩ := RVs.inv h
    obtain ⟨q, rfl, e, o⟩ := key_inv a.1 h1
    obtain ⟨k, rfl, rfl, ko⟩ := keys_inv a.2 h2
    subst e
    refine ⟨q :: k, rfl, rfl, fun y hy => ?_⟩
    rcases List.mem_cons.mp hy with rfl | hy
    · exact o
    · exact ko y hy
theorem new_kup {r : RC} (R : Rep r) {p : Addr} {xs : List D} {vs : List V} (hp : r.H p = none) (h : RVs r xs vs) (ha : xs.all keyOk = true) : Ext r { r with H := upd r.H p (.tup vs) } ∧ Rep { r with H := upd r.H p (.tup vs) } ∧ RV { r with H := upd r.H p (.tup vs) } (.kup xs) (.ref p) := by
  obtain ⟨e, R'⟩ := R.alloc (o := .tup vs) hp
  obtain ⟨k, rfl, rfl, ko⟩ := keys_inv ha h
  refine ⟨e, R', ?_⟩
  simp only [RV]
  exact ⟨p, k, rfl, upd_same, rfl, ko⟩
end L2.MP
namespace L2.MP
open PySem PySem.Spec PyProof.Rows
theorem mapO_cons {α β : Type} {f : α → Option β} {x : α} {xs : List α} {zs : List β} (h : mapO f (x :: xs) = some zs) : ∃ y ys, f x = some y ∧ mapO f xs = some ys ∧ zs = y :: ys := by
  unfold mapO at h
  cases e : f x with
  | none => rw [e] at h; cases h
  | some y =>
    rw [e] at h
    cases e2 : mapO f xs with
    | none => simp only [Option.bind_some, e2, Option.bind_none] at h; cases h
    | some ys =>
      simp only [Option.bind_some, e2] at h
      exact ⟨y, ys, rfl, rfl, (Option.some.inj h).symm⟩
/-- what a value is as data -/
structure DpOk (r : RC) (v : V) (a : D) (n : Nat) (pd : PyData) : Prop where
  dp : Dp r.B.K r.H v pd
  to : toPD a = some pd
  lay : pd.canLay0 = true
  dep : pd.depth ≤ n
theorem deeps_dp {r : RC} {n : Nat} (ih : ∀ (d a : D) (v : V), deep false r.ns n d = some a → RV r d v → ∃ pd, DpOk r v a n pd) :
    ∀ (xs bs : List D) (vs : List V), mapO (deep false r.ns n) xs = some bs → RVs r xs vs → ∃ pds, DpAll r.B.K r.H vs pds ∧ toPDs bs = some pds ∧ PyData.canLayAll0 pds = true ∧ PyData.depthAll pds ≤ n
  | [], bs, vs, h, q => by
    cases h
    rw [RVs.invN q]
    exact ⟨[], .nil, by simp [toPDs], by simp [PyData.canLayAll0], by simp [PyData.depthAll]⟩
  | x :: xs, bs, vs, h, q => by
    obtain ⟨v, ws, rfl, q1, q2⟩ := RVs.inv q
    obtain ⟨y, ys, e1, e2, rfl⟩ := mapO_cons h
    obtain ⟨pd, p⟩ := ih x y v e1 q1
    obtain ⟨pds, p1, p2, p3, p4⟩ := deeps_dp ih xs ys ws e2 q2
    refine ⟨pd :: pds, .cons p.dp p1, by simp [toPDs, p.to, p2], by simp [PyData.canLayAll0, p.lay, p3], ?_⟩
    simp only [PyData.depthAll]
    have := p.dep
    omega
theorem deep_dp {r : RC} (R : Rep r) : ∀ (n : Nat) (d a : D) (v : V), deep false r.ns n d = some a → RV r d v → ∃ pd, DpOk r v a n pd
  | 0, d, a, v, h, q => by simp [deep] at h
  | n + 1, d, a, v, h, q => by
    cases d with
    | non =>
      simp only [deep, Option.some.injEq] at h; subst h
      rw [rv_non q]
      exact ⟨.none, .non, by simp [toPD], by simp [PyData.canLay0], by simp [PyData.depth]⟩
    | bl b =>
      simp only [deep, Option.some.injEq] at h; subst h
      rw [rv_bl q]
      exact ⟨.bool b, .bl b, by simp [toPD], by simp [PyData.canLay0], by simp [PyData.depth]⟩
    | int i =>
      simp only [deep, Option.some.injEq] at h; subst h
      rw [rv_int q]
      exact ⟨.int i, .int i, by simp [toPD], by simp [PyData.canLay0], by simp [PyData.depth]⟩
    | str s =>
      simp only [deep, Option.some.injEq] at h; subst h
      obtain ⟨rfl, hs⟩ := rv_str q
      refine ⟨.str ⟨s.toArray⟩, .str _, by simp [toPD], ?_, by simp [PyData.depth]⟩
      simp only [PyData.canLay0, PyData.strOk]
      have e : s.toArray.all (fun c => decide (c < 1114112)) = true := by
        rw [List.all_toArray, List.all_eq_true]
        exact fun c hc => decide_eq_true (hs c hc)
      exact e
    | tup xs =>
      simp only [deep, Option.map_eq_some_iff] at h
      obtain ⟨bs, hb, rfl⟩ := h
      simp only [RV] at q
      obtain ⟨b, vs, rfl, h1, h2⟩ := q
      obtain ⟨pds, p1, p2, p3, p4⟩ := deeps_dp (fun d a v => deep_dp R n d a v) xs bs vs hb h2
      exact ⟨.tuple pds, .tup h1 p1, by simp [toPD, p2], by simpa [PyData.canLay0] using p3, by simp only [PyData.depth]; omega⟩
    | lst xs =>
      simp only [deep, Option.map_eq_some_iff] at h
      obtain ⟨bs, hb, rfl⟩ := h
      obtain ⟨b, vs, rfl, h1, h2⟩ := lstV_inv (d := .lst xs) R rfl q
      obtain ⟨pds, p1, p2, p3, p4⟩ := deeps_dp (fun d a v => deep_dp R n d a v) xs bs vs hb h2
      exact ⟨.list pds, .lst (SqL.of h1) p1, by simp [toPD, p2], by simpa [PyData.canLay0] using p3, by simp only [PyData.depth]; omega⟩
    | ref i =>
      simp only [deep, Option.bind_eq_some_iff, Option.map_eq_some_iff] at h
      obtain ⟨xs, ⟨nd, hn, hx⟩, bs, hb, rfl⟩ := h
      obtain ⟨b, vs, rfl, h1, h2⟩ := lstV_inv (d := .ref i) (xs := xs) R (by simp [lstV, hn, hx]) q
      obtain ⟨pds, p1, p2, p3, p4⟩ := deeps_dp (fun d a v => deep_dp R n d a v) xs bs vs hb h2
      exact ⟨.list pds, .lst (SqL.of h1) p1, by simp [toPD, p2], by simpa [PyData.canLay0] using p3, by simp only [PyData.depth]; omega⟩
    | exn c fs => simp [deep] at h
    | dic ks vs => simp [deep] at h
    | scr ns => simp [deep] at h
    | kup ns => simp [deep] at h
theorem DpOk.shaped {r : RC} {v : V} {a : D} {n : Nat} {pd : PyData} (h : DpOk r v a n pd) (hn : n ≤ 40) : SeqAt.shaped pd = true := by
  unfold SeqAt.shaped
  rw [h.lay, Bool.true_and, decide_eq_true_eq]
  exact Nat.le_trans h.dep (Nat.le_trans hn (by decide))
theorem toPDs_cons {x : D} {xs : List D} {ds : List PyData} (h : toPDs (x :: xs) = some ds) : ∃ p ps, toPD x = some p ∧ toPDs xs = some ps ∧ ds = p :: ps := by
  simp only [toPDs, Option.bind_eq_some_iff, Option.some.injEq] at h
  obtain ⟨p, h1, ps, h2, h3⟩ := h
  exact ⟨p, ps, h1, h2, h3.symm⟩
theorem str_eq (s t : List Nat) : ((⟨s.toArray⟩ : Str) == ⟨t.toArray⟩) = (s == t) := by
  rw [Bool.eq_iff_iff]
  simp
set_option maxHeartbeats 2000000 in
mutual
theorem eqT_eqv : ∀ {a b : D} {p q : PyData}, toPD a = some p → toPD b = some q → p.canLay0 = true → q.canLay0 = true → eqT a b = PyData.eqv p q
  | .tup a, b, p, q, h1, h2, h3, h4 => by
    simp only [toPD, Option.map_eq_some_iff] at h1
    obtain ⟨ps, e1, rfl⟩ := h1
    cases b with
    | tup b =>
      simp only [toPD, Option.map_eq_some_iff] at h2
      obtain ⟨qs, e2, rfl⟩ := h2
      simp only [eqT, PyData.eqv]
      exact eqTs_eqv e1 e2 (by simpa [PyData.canLay0] using h3) (by simpa [PyData.canLay0] using h4)
    | _ => simp only [toPD, Option.map_eq_some_iff, Option.some.injEq, Option.bind_eq_some_iff, reduceCtorEq] at h2 <;> first | (subst h2; simp [eqT, PyData.eqv]) | (obtain ⟨qs, _, rfl⟩ := h2; simp [eqT, PyData.eqv]) | (obtain ⟨ks, _, vs, _, rfl⟩ := h2; simp [eqT, PyData.eqv])
  | .lst a, b, p, q, h1, h2, h3, h4 => by
    simp only [toPD, Option.map_eq_some_iff] at h1
    obtain ⟨ps, e1, rfl⟩ := h1
    cases b with
    | lst b =>
      simp only [toPD, Option.map_eq_some_iff] at h2
      obtain ⟨qs, e2, rfl⟩ := h2
      simp only [eqT, PyData.eqv]
      exact eqTs_eqv e1 e2 (by simpa [PyData.canLay0] using h3) (by simpa [PyData.canLay0] using h4)
    | _ => simp only [toPD, Option.map_eq_some_iff, Option.some.injEq, Option.bind_eq_some_iff, reduceCtorEq] at h2 <;> first | (subst h2; simp [eqT, PyData.eqv]) | (obtain ⟨qs, _, rfl⟩ := h2; simp [eqT, PyData.eqv]) | (obtain ⟨ks, _, vs, _, rfl⟩ := h2; simp [eqT, PyData.eqv])
  | .non, b, p, q, h1, h2, h3, h4 => by
    simp only [toPD, Option.some.injEq] at h1; subst h1
    cases b <;> simp only [toPD, Option.map_eq_some_iff, Option.some.injEq, Option.bind_eq_some_iff, reduceCtorEq] at h2 <;> first | (subst h2; simp [eqT, PyData.eqv]) | (obtain ⟨qs, _, rfl⟩ := h2; simp [eqT, PyData.eqv]) | (obtain ⟨ks, _, vs, _, rfl⟩ := h2; simp [eqT, PyData.eqv])
  | .bl x, b, p, q, h1, h2, h3, h4 => by
    simp only [toPD, Option.some.injEq] at h1; subst h1
    cases b <;> simp only [toPD, Option.map_eq_some_iff, Option.some.injEq, Option.bind_eq_some_iff, reduceCtorEq] at h2 <;> first | (subst h2; simp [eqT, PyData.eqv]) | (obtain ⟨qs, _, rfl⟩ := h2; simp [eqT, PyData.eqv]) | (obtain ⟨ks, _, vs, _, rfl⟩ := h2; simp [eqT, PyData.eqv])
  | .int x, b, p, q, h1, h2, h3, h4 => by
    simp only [toPD, Option.some.injEq] at h1; subst h1
    cases b <;> simp only [toPD, Option.map_eq_some_iff, Option.some.injEq, Option.bind_eq_some_iff, reduceCtorEq] at h2 <;> first | (subst h2; simp [eqT, PyData.eqv]) | (obtain ⟨qs, _, rfl⟩ := h2; simp [eqT, PyData.eqv]) | (obtain ⟨ks, _, vs, _, rfl⟩ := h2; simp [eqT, PyData.eqv])
  | .str x, b, p, q, h1, h2, h3, h4 => by
    simp only [toPD, Option.some.injEq] at h1; subst h1
    cases b <;> simp only [toPD, Option.map_eq_some_iff, Option.some.injEq, Option.bind_eq_some_iff, reduceCtorEq] at h2 <;> first | (subst h2; simp only [eqT, PyData.eqv, str_eq]) | (obtain ⟨qs, _, rfl⟩ := h2; simp [eqT, PyData.eqv]) | (obtain ⟨ks, _, vs, _, rfl⟩ := h2; simp [eqT, PyData.eqv])
  | .ref i, b, p, q, h1, h2, h3, h4 => by simp [toPD] at h1
  | .exn c fs, b, p, q, h1, h2, h3, h4 => by simp [toPD] at h1
  | .scr ns, b, p, q, h1, h2, h3, h4 => by simp [toPD] at h1
  | .kup ns, b, p, q, h1, h2, h3, h4 => by simp [toPD] at h1
  | .dic ks vs, b, p, q, h1, h2, h3, h4 => by
    simp only [toPD, Option.map_eq_some_iff, Option.bind_eq_some_iff] at h1
    obtain ⟨_, _, _, _, rfl⟩ := h1
    simp [PyData.canLay0] at h3
theorem eqTs_eqv : ∀ {a b : List D} {p q : List PyData}, toPDs a = some p → toPDs b = some q → PyData.canLayAll0 p = true → PyData.canLayAll0 q = true → eqTs a b = PyData.eqvAll p q
  | [], b, p, q, h1, h2, h3, h4 => by
    simp only [toPDs, Option.some.injEq] at h1; subst h1
    cases b with
    | nil => simp only [toPDs, Option.some.injEq] at h2; subst h2; simp [eqTs, PyData.eqvAll]
    | cons y ys =>
      obtain ⟨q1, qs, _, _, rfl⟩ := toPDs_cons h2
      simp [eqTs, PyData.eqvAll]
  | x :: xs, b, p, q, h1, h2, h3, h4 => by
    obtain ⟨p1, ps, e1, e2, rfl⟩ := toPDs_cons h1
    cases b with
    | nil => simp only [toPDs, Option.some.injEq] at h2; subst h2; simp [eqTs, PyData.eqvAll]
    | cons y ys =>
      obtain ⟨q1, qs, e3, e4, rfl⟩ := toPDs_cons h2
      simp only [PyData.canLayAll0, Bool.and_eq_true] at h3 h4
      simp only [eqTs, PyData.eqvAll]
      rw [eqT_eqv e1 e3 h3.1 h4.1, eqTs_eqv e2 e4 h3.2 h4.2]
end
def rInP (K : PySem.W.Frag) (neg : Bool) : R2 := fun x y H Q => ∃ d ds, Dp K H x d ∧ (Dp K H y (.list ds) ∨ Dp K H y (.tuple ds)) ∧ SeqAt.shaped d = true ∧ SeqAt.shaped (.list ds) = true ∧ Q (.bl (if neg then !ds.any fun z => PyData.eqv z d else ds.any fun z => PyData.eqv z d)) H
theorem lay_tup {ds : List PyData} (h : PyData.canLay0 (.list ds) = true) : PyData.canLay0 (.tuple ds) = true := by simpa only [PyData.canLay0] using h
theorem op_inP {X : Cx} (hu : X.A.units + 65 < cLine) : OpR X (compareOp .In) (rInP X.K false) := by
  intro pins s σ H x y v u Q I rx ry h
  obtain ⟨d, ds, hd, he, sd, se, q⟩ := h
  obtain ⟨as, r1⟩ := Dp.reads I d x v hd rx
  rcases he with he | he
  · obtain ⟨bs, r2⟩ := Dp.reads I (.list ds) y u he ry
    exact SeqAt.in_list_reads r2 r1 (SeqAt.canLay_of_shaped se) (SeqAt.canLay_of_shaped sd) (room_in_shaped sd hu) ⟨.bl _, H, I, rfl, q⟩
  · obtain ⟨bs, r2⟩ := Dp.reads I (.tuple ds) y u he ry
    exact SeqAt.in_tuple_reads r2 r1 (lay_tup (SeqAt.canLay_of_shaped se)) (SeqAt.canLay_of_shaped sd) (room_in_shaped sd hu) ⟨.bl _, H, I, rfl, q⟩
theorem op_notInP {X : Cx} (hu : X.A.units + 65 < cLine) : OpR X (compareOp .NotIn) (rInP X.K true) := by
  intro pins s σ H x y v u Q I rx ry h
  obtain ⟨d, ds, hd, he, sd, se, q⟩ := h
  obtain ⟨as, r1⟩ := Dp.reads I d x v hd rx
  rcases he with he | he
  · obtain ⟨bs, r2⟩ := Dp.reads I (.list ds) y u he ry
    exact SeqAt.notIn_list_reads r2 r1 (SeqAt.canLay_of_shaped se) (SeqAt.canLay_of_shaped sd) (room_in_shaped sd hu) ⟨.bl _, H, I, rfl, q⟩
  · obtain ⟨bs, r2⟩ := Dp.reads I (.tuple ds) y u he ry
    exact SeqAt.notIn_tuple_reads r2 r1 (lay_tup (SeqAt.canLay_of_shaped se)) (SeqAt.canLay_of_shaped sd) (room_in_shaped sd hu) ⟨.bl _, H, I, rfl, q⟩
section
variable {ec : EC} {r : RC} {σ : St} {Q : VK} {W : WX} {X : Cx} {B : RB} {k : Nat} {x y : D} {v1 v2 : V}
theorem done {d : D} {v : V} (R : Rep r) (g : GV ec r σ Q W (.ok d r.ns)) (h : RV r d v) : Q v r.H := g r v rfl (Ext.refl r) R h
theorem tup_inv {xs : List D} {v : V} (h : RV r (.tup xs) v) : ∃ a vs, v = .ref a ∧ SqT r.B.K r.H a vs ∧ RVs r xs vs := by simpa only [RV] using h
theorem mk_tup {a : Addr} {xs : List D} {vs : List V} (p : SqT r.B.K r.H a vs) (q : RVs r xs vs) : RV r (.tup xs) (.ref a) := by
  simp only [RV]
  exact ⟨a, vs, rfl, p, q⟩
theorem RVs.nil_iff {xs : List D} {vs : List V} (h : RVs r xs vs) : vs = [] ↔ xs = [] := by
  have e := h.length
  constructor
  · rintro rfl; exact List.length_eq_zero_iff.mp e
  · rintro rfl; exact List.length_eq_zero_iff.mp e.symm
theorem sz_str (s : List Nat) : (⟨s.toArray⟩ : Str).length = s.length := by
  show Array.size _ = _
  simp
theorem fold_cat {α : Type} (its : List α) : ∀ (m : Nat) (acc : List α), (List.replicate m its.toArray).foldl (fun x y => x ++ y) acc.toArray = (acc ++ (List.replicate m its).flatten).toArray
  | 0, acc => by simp
  | m + 1, acc => by
    rw [List.replicate_succ, List.foldl_cons, List.replicate_succ, List.flatten_cons, ← List.append_assoc]
    have e : acc.toArray ++ its.toArray = (acc ++ its).toArray := by simp
    rw [e]
    exact fold_cat its m (acc ++ its)
theorem txt_mul {s : List Nat} {j : Int} (h0 : 0 ≤ j) : Txt.mul (⟨s.toArray⟩ : Str) j = ⟨(List.replicate j.toNat s).flatten.toArray⟩ := by
  unfold Txt.mul
  by_cases h1 : j < 1
  · rw [if_pos h1]
    have : j.toNat = 0 := by omega
    rw [this]
    rfl
  · rw [if_neg h1]
    by_cases h2 : (j == 1 || (⟨s.toArray⟩ : Str).length == 0) = true
    · rw [if_pos h2]
      simp only [Bool.or_eq_true, beq_iff_eq] at h2
      rcases h2 with rfl | h2
      · simp
      · have e : s = [] := List.length_eq_zero_iff.mp (by rw [sz_str] at h2; exact h2)
        subst e
        have : (List.replicate j.toNat ([] : List Nat)).flatten = [] := by simp
        rw [this]
    · rw [if_neg h2]
      have := fold_cat s j.toNat []
      rw [List.nil_append] at this
      show (⟨List.foldl (fun x y => x ++ y) #[] (List.replicate j.toNat s.toArray)⟩ : Str) = _
      rw [← this]
theorem op_mulS {X : Cx} : OpR X (binaryOp .Mult) (fun x y H Q => ∃ (z : Str) (k : Int), x = .str z ∧ y = .int k ∧ 0 ≤ k ∧ k < 1000 ∧ z.length * k.toNat ≤ lim ∧ Q (.str (Txt.mul z k)) H) := by
  intro pins s σ H x y v u Q I rx ry h
  obtain ⟨z, k, rfl, rfl, k0, k1, hz, q⟩ := h
  obtain ⟨t, rfl⟩ := rx
  obtain ⟨t', rfl⟩ := ry
  have hl : z.length * k.toNat ≤ 1000000 := hz
  refine SB.mul ⟨?_, fun h1 h2 => ?_, fun h1 h2 => ?_⟩ (fun t' tk => ⟨.str (Txt.mul z k), H, I.tok _, ⟨_, rfl⟩, q⟩)
  · have e1 : ¬ k < -(2 ^ 63 : Int) := by omega
    have e2 : ¬ k ≥ 2 ^ 63 := by omega
    simp only [e1, e2, decide_false, Bool.or_self]
  · have hk : 0 < k := by omega
    have h3 : z.length * 1 ≤ z.length * k.toNat := Nat.mul_le_mul_left _ (by omega)
    have h4 : (1000000 : Int) ≤ (2 ^ 63 - 1) / k := by
      refine (Int.le_ediv_iff_mul_le hk).mpr ?_
      omega
    omega
  · show decide (_ > sizeLine) = false
    refine decide_eq_false ?_
    have : (1000000 : Nat) ≤ sizeLine := by decide
    omega
set_option maxHeartbeats 1000000 in
theorem bin_ok (ok : XOk B k X) (eB : r.B = B) (R : Rep r) {op : Operator} (h1 : RV r x v1) (h2 : RV r y v2) (g : GV ec r σ Q W (binD op x y r.ns)) : OM X (binaryOp op) σ v1 v2 r.H Q := by
  have eK : X.K = r.B.K := by rw [ok.K, eB]
  unfold binD at g
  split at g
  · rw [rv_int h1, rv_int h2]
    exact OM.of op_add ⟨_, _, rfl, rfl, done R g (mk_int _)⟩
  · obtain ⟨hz, g⟩ := Good.ite g
    obtain ⟨rfl, o1⟩ := rv_str h1
    obtain ⟨rfl, o2⟩ := rv_str h2
    refine OM.of op_add_str ⟨_, _, rfl, rfl, ?_, ?_⟩
    · show Array.size _ + Array.size _ ≤ _
      simp only [List.size_toArray]
      exact le_line hz
    · rw [str_app]
      exact done R g (mk_str fun c hc => (List.mem_append.mp hc).elim (o1 c) (o2 c))
  · obtain ⟨hz, g⟩ := Good.ite g
    obtain ⟨a, vs, rfl, p1, q1⟩ := tup_inv h1
    obtain ⟨b, ws, rfl, p2, q2⟩ := tup_inv h2
    refine OM.of op_catA ⟨a, b, vs, ws, rfl, rfl, eK ▸ p1, eK ▸ p2, by rw [← q1.length, ← q2.length]; exact le_line hz, fun e => ?_, fun _ e => ?_, fun _ _ p hp => ?_⟩
    · rw [q1.nil_iff.mp e] at g
      exact done R g (mk_tup p2 q2)
    · rw [q2.nil_iff.mp e, List.append_nil] at g
      exact done R g (mk_tup p1 q1)
    · obtain ⟨e, R', q⟩ := new_tup R hp (q1.append q2)
      exact g { r with H := upd r.H p (.tup (vs ++ ws)) } (.ref p) rfl e R' q
  · obtain ⟨s, hs, g⟩ := Good.of g
    obtain ⟨t, ht, g⟩ := Good.of g
    obtain ⟨hz, g⟩ := Good.ite g
    obtain ⟨a, vs, rfl, p1, q1⟩ := lstV_inv R hs h1
    obtain ⟨b, ws, rfl, p2, q2⟩ := lstV_inv R ht h2
    refine OM.of op_cat ⟨a, b, vs, ws, rfl, rfl, p1, p2, by rw [← q1.length, ← q2.length]; exact le_line hz, fun p hp => ?_⟩
    obtain ⟨e, R', q⟩ := new_lst R hp (q1.append q2)
    exact g { r with H := upd r.H p (.lst (vs ++ ws)) } (.ref p) rfl e R' q
  · rw [rv_int h1, rv_int h2]
    exact OM.of op_sub ⟨_, _, rfl, rfl, done R g (mk_int _)⟩
  · obtain ⟨hz, g⟩ := Good.ite g
    rw [rv_int h1, rv_int h2]
    exact OM.of op_mul ⟨_, _, rfl, rfl, hz, done R g (mk_int _)⟩
  · obtain ⟨hz, g⟩ := Good.ite g
    obtain ⟨rfl, o1⟩ := rv_str h1
    rw [rv_int h2]
    refine OM.of op_mulS ⟨_, _, rfl, rfl, hz.1, hz.2.1, by rw [sz_str]; exact hz.2.2, ?_⟩
    rw [txt_mul hz.1]
    refine done R g (mk_str fun c hc => ?_)
    obtain ⟨l, hl, hc⟩ := List.mem_flatten.mp hc
    rw [List.eq_of_mem_replicate hl] at hc
    exact o1 c hc
  · obtain ⟨hz, g⟩ := Good.ite g
    obtain ⟨a, vs, rfl, p1, q1⟩ := tup_inv h1
    rw [rv_int h2]
    refine OM.of op_repT ⟨a, _, vs, rfl, rfl, eK ▸ p1, (fun e => hz.2.2.1 (q1.nil_iff.mp e)), hz.1, hz.2.1, by rw [← q1.length]; exact hz.2.2.2, fun p hp => ?_⟩
    have qr : ∀ n, RVs r (List.replicate n _).flatten (List.replicate n vs).flatten := fun n => by
      induction n with
      | zero => exact RVs.nil
      | succ n ih => rw [List.replicate_succ, List.replicate_succ, List.flatten_cons, List.flatten_cons]; exact q1.append ih
    obtain ⟨e, R', q⟩ := new_tup R hp (qr _)
    exact g { r with H := upd r.H p (.tup _) } (.ref p) rfl e R' q
  · obtain ⟨s, hs, g⟩ := Good.of g
    obtain ⟨hz, g⟩ := Good.ite g
    obtain ⟨a, vs, rfl, p1, q1⟩ := lstV_inv R hs h1
    rw [rv_int h2]
    refine OM.of op_rep ⟨a, _, vs, rfl, rfl, p1, by omega, by omega, by rw [← q1.length]; exact le_line hz.2.2, fun p hp => ?_⟩
    have qr : ∀ n, RVs r (List.replicate n s).flatten (List.replicate n vs).flatten := fun n => by
      induction n with
      | zero => exact RVs.nil
      | succ n ih => rw [List.replicate_succ, List.replicate_succ, List.flatten_cons, List.flatten_cons]; exact q1.append ih
    obtain ⟨e, R', q⟩ := new_lst R hp (qr _)
    exact g { r with H := upd r.H p (.lst _) } (.ref p) rfl e R' q
  · obtain ⟨hz, g⟩ := Good.ite g
    rw [rv_int h1, rv_int h2]
    exact OM.of op_fdiv ⟨_, _, rfl, rfl, hz, done R g (mk_int _)⟩
  · obtain ⟨hz, g⟩ := Good.ite g
    rw [rv_int h1, rv_int h2]
    exact OM.of op_mod ⟨_, _, rfl, rfl, hz, done R g (mk_int _)⟩
  · obtain ⟨hz, g⟩ := Good.ite g
    rw [rv_int h1, rv_int h2]
    exact OM.of op_pow ⟨_, _, rfl, rfl, ⟨hz.1, by omega, hz.2.2⟩, done R g (mk_int _)⟩
  · obtain ⟨hz, g⟩ := Good.ite g
    rw [rv_int h1, rv_int h2]
    exact OM.of op_shl ⟨_, _, rfl, rfl, ⟨hz.1, by omega, hz.2.2⟩, done R g (mk_int _)⟩
  · obtain ⟨hz, g⟩ := Good.ite g
    rw [rv_int h1, rv_int h2]
    exact OM.of op_shr ⟨_, _, rfl, rfl, hz, done R g (mk_int _)⟩
  · rw [rv_int h1, rv_int h2]
    exact OM.of op_and ⟨_, _, rfl, rfl, done R g (mk_int _)⟩
  · exact False.elim g
theorem eqD_ok {b : Bool} (R : Rep r) (h1 : RV r x v1) (h2 : RV r y v2) (h : eqD r.ns x y = some b) :
    ∃ p q, Dp r.B.K r.H v1 p ∧ Dp r.B.K r.H v2 q ∧ SeqAt.shaped p = true ∧ SeqAt.shaped q = true ∧ b = PyData.eqv p q := by
  simp only [eqD, Option.bind_eq_some_iff, Option.some.injEq] at h
  obtain ⟨a, ha, c, hc, rfl⟩ := h
  obtain ⟨p, p1⟩ := deep_dp R 40 x a v1 ha h1
  obtain ⟨q, q1⟩ := deep_dp R 40 y c v2 hc h2
  exact ⟨p, q, p1.dp, q1.dp, p1.shaped (Nat.le_refl _), q1.shaped (Nat.le_refl _), eqT_eqv p1.to q1.to p1.lay q1.lay⟩
theorem any_eqv {a : D} {p : PyData} (ha : toPD a = some p) (hl : p.canLay0 = true) : ∀ {bs : List D} {ps : List PyData}, toPDs bs = some ps → PyData.canLayAll0 ps = true → (bs.any fun z => eqT z a) = ps.any fun z => PyData.eqv z p
  | [], ps, h, _ => by simp only [toPDs, Option.some.injEq] at h; subst h; rfl
  | b :: bs, ps, h, l => by
    obtain ⟨p1, ps1, e1, e2, rfl⟩ := toPDs_cons h
    simp only [PyData.canLayAll0, Bool.and_eq_true] at l
    rw [List.any_cons, List.any_cons, eqT_eqv e1 ha l.1 hl, any_eqv ha hl e2 l.2]
theorem inD_ok {b : Bool} (R : Rep r) (h1 : RV r x v1) (h2 : RV r y v2) (h : inD r.ns x y = some b) :
    (∃ (c : Nat) (z : Str), v1 = .str ⟨#[c]⟩ ∧ v2 = .str z ∧ b = decide (c ∈ z.cps.toList)) ∨
    (∃ d ds, Dp r.B.K r.H v1 d ∧ (Dp r.B.K r.H v2 (.list ds) ∨ Dp r.B.K r.H v2 (.tuple ds)) ∧ SeqAt.shaped d = true ∧ SeqAt.shaped (.list ds) = true ∧ b = ds.any fun z => PyData.eqv z d) ∨
    ∃ a o, v2 = .ref a ∧ DGet r.H a v1 o ∧ b = o.isSome := by
  have key : (deep false r.ns 40 x).bind (fun a => (seqV r.ns y).bind fun ys => (mapO (deep false r.ns 40) ys).bind fun bs => some (bs.any fun z => eqT z a)) = some b →
      ∃ d ds, Dp r.B.K r.H v1 d ∧ (Dp r.B.K r.H v2 (.list ds) ∨ Dp r.B.K r.H v2 (.tuple ds)) ∧ SeqAt.shaped d = true ∧ SeqAt.shaped (.list ds) = true ∧ b = ds.any fun z => PyData.eqv z d := fun h => by
    simp only [Option.bind_eq_some_iff, Option.some.injEq] at h
    obtain ⟨a, ha, zs, hz, bs, hb, rfl⟩ := h
    obtain ⟨p, p1⟩ := deep_dp R 40 x a v1 ha h1
    obtain ⟨q, vs, rfl, h3, h4⟩ := seqV_inv R hz h2
    obtain ⟨ds, d1, d2, d3, d4⟩ := deeps_dp (fun d a v => deep_dp R 40 d a v) zs bs vs hb h4
    refine ⟨p, ds, p1.dp, ?_, p1.shaped (Nat.le_refl _), ?_, any_eqv p1.to p1.lay d2 d3⟩
    · rcases h3 with h3 | h3
      · exact .inl (.lst h3 d1)
      · exact .inr (.tup h3 d1)
    · unfold SeqAt.shaped
      simp only [PyData.canLay0, d3, Bool.true_and, decide_eq_true_eq, PyData.depth]
      have d5 : PyData.depthAll ds ≤ 40 := d4
      exact decide_eq_true (by omega)
  unfold inD at h
  split at h
  · rename_i s
    split at h
    · rename_i c
      obtain ⟨rfl, _⟩ := rv_str h1
      obtain ⟨rfl, _⟩ := rv_str h2
      left
      exact ⟨c, _, rfl, rfl, (Option.some.inj h).symm⟩
    · cases h
  · split at h
    · simp only [Option.bind_eq_some_iff] at h
      obtain ⟨⟨ks, vs⟩, hd, h⟩ := h
      split at h
      · rename_i ks' _
        cases h
        obtain ⟨i, kvs, rfl, rfl, e0, e1, rfl, e3, e4⟩ := dicT_inv R hd h2
        obtain ⟨b, k, rfl, e5, e6, _⟩ := kup_inv h1
        rw [e6]
        exact .inr (.inr ⟨_, _, rfl, DGet.t e1 e5, mem_valG keyT_inj⟩)
      · cases h
    · split at h
      · simp only [Option.bind_eq_some_iff] at h
        obtain ⟨⟨ks, vs⟩, hd, h⟩ := h
        split at h
        · rename_i hk
          cases h
          obtain ⟨i, kvs, rfl, rfl, e0, e1, rfl, e3, e4⟩ := dic_inv R hd h2
          obtain ⟨q, rfl, rfl, _⟩ := key_inv hk h1
          exact .inr (.inr ⟨_, _, rfl, DGet.k e1, mem_val⟩)
        · cases h
      · exact .inr (.inl (key h))
set_option maxHeartbeats 1000000 in
theorem cmp_ok (ok : XOk B k X) (eB : r.B = B) (R : Rep r) {op : CmpOp} {b : Bool} (h1 : RV r x v1) (h2 : RV r y v2) (h : cmpD r.ns op x y = some b) (g : Q (.bl b) r.H) : OM X (compareOp op) σ v1 v2 r.H Q := by
  have eK : X.K = r.B.K := by rw [ok.K, eB]
  have hu := ok.room
  cases op with
  | Eq =>
    obtain ⟨p, q, d1, d2, s1, s2, rfl⟩ := eqD_ok R h1 h2 h
    exact OM.of (op_eqD (by omega)) ⟨p, q, eK ▸ d1, eK ▸ d2, s1, s2, g⟩
  | NotEq =>
    simp only [cmpD, Option.map_eq_some_iff] at h
    obtain ⟨b', h, rfl⟩ := h
    obtain ⟨p, q, d1, d2, s1, s2, rfl⟩ := eqD_ok R h1 h2 h
    exact OM.of (op_neD (by omega)) ⟨p, q, eK ▸ d1, eK ▸ d2, s1, s2, g⟩
  | In =>
    rcases inD_ok R h1 h2 h with ⟨c, z, rfl, rfl, rfl⟩ | ⟨d, ds, d1, d2, s1, s2, rfl⟩ | ⟨a, o, rfl, d1, rfl⟩
    · exact OM.of op_in_sign ⟨c, z, rfl, rfl, g⟩
    · exact OM.of (op_inP (by omega)) ⟨d, ds, eK ▸ d1, eK ▸ d2, s1, s2, g⟩
    · intro pins s v u I rx ry
      obtain rfl : u = Value.ref a := ry
      exact d_in (by omega) I d1 rx fun s' I' => ⟨.bl o.isSome, _, I', rfl, g⟩
  | NotIn =>
    simp only [cmpD, Option.map_eq_some_iff] at h
    obtain ⟨b', h, rfl⟩ := h
    rcases inD_ok R h1 h2 h with ⟨c, z, rfl, rfl, rfl⟩ | ⟨d, ds, d1, d2, s1, s2, rfl⟩ | ⟨a, o, rfl, d1, rfl⟩
    · exact OM.of op_notIn_sign ⟨c, z, rfl, rfl, g⟩
    · exact OM.of (op_notInP (by omega)) ⟨d, ds, eK ▸ d1, eK ▸ d2, s1, s2, g⟩
    · intro pins s v u I rx ry
      obtain rfl : u = Value.ref a := ry
      exact d_notIn (by omega) I d1 rx fun s' I' => ⟨.bl (!o.isSome), _, I', rfl, g⟩
  | Is =>
    simp only [cmpD] at h
    split at h
    · have e := Option.some.inj h
      refine OM.of op_isN ⟨rv_non h2, ?_⟩
      have eb : decide (v1 = V.non) = b := by
        rw [← e]
        cases x with
        | non => rw [rv_non h1]; rfl
        | bl _ => rw [rv_bl h1]; rfl
        | int _ => rw [rv_int h1]; rfl
        | str _ => rw [(rv_str h1).1]; rfl
        | tup _ => obtain ⟨_, _, rfl, _⟩ := tup_inv h1; rfl
        | lst _ => simp only [RV] at h1; obtain ⟨_, _, rfl, _⟩ := h1; rfl
        | ref _ => simp only [RV] at h1; rw [h1.2]; rfl
        | exn _ _ => simp only [RV] at h1; obtain ⟨_, _, rfl, _⟩ := h1; rfl
        | dic _ _ => simp only [RV] at h1; obtain ⟨_, rfl, _⟩ := h1; rfl
        | scr _ => simp only [RV] at h1; obtain ⟨_, rfl, _⟩ := h1; rfl
        | kup _ => simp only [RV] at h1; obtain ⟨_, _, rfl, _⟩ := h1; rfl
      rw [eb]
      exact g
    · split at h
      · have e := Option.some.inj h
        refine OM.of op_is_bl ⟨_, _, rv_bl h1, rv_bl h2, ?_⟩
        rw [e]
        exact g
      · cases h
    · cases h
  | IsNot =>
    simp only [cmpD] at h
    split at h
    · have e := Option.some.inj h
      refine OM.of op_notN ⟨rv_non h2, ?_⟩
      have eb : (!decide (v1 = V.non)) = b := by
        rw [← e]
        cases x with
        | non => rw [rv_non h1]; rfl
        | bl _ => rw [rv_bl h1]; rfl
        | int _ => rw [rv_int h1]; rfl
        | str _ => rw [(rv_str h1).1]; rfl
        | tup _ => obtain ⟨_, _, rfl, _⟩ := tup_inv h1; rfl
        | lst _ => simp only [RV] at h1; obtain ⟨_, _, rfl, _⟩ := h1; rfl
        | ref _ => simp only [RV] at h1; rw [h1.2]; rfl
        | exn _ _ => simp only [RV] at h1; obtain ⟨_, _, rfl, _⟩ := h1; rfl
        | dic _ _ => simp only [RV] at h1; obtain ⟨_, rfl, _⟩ := h1; rfl
        | scr _ => simp only [RV] at h1; obtain ⟨_, rfl, _⟩ := h1; rfl
        | kup _ => simp only [RV] at h1; obtain ⟨_, _, rfl, _⟩ := h1; rfl
      rw [eb]
      exact g
    · split at h
      · have e := Option.some.inj h
        refine OM.of op_isnot_bl ⟨_, _, rv_bl h1, rv_bl h2, ?_⟩
        rw [e]
        exact g
      · cases h
    · cases h
  | Lt =>
    simp only [cmpD] at h
    split at h
    · rw [rv_int h1, rv_int h2]
      have e := Option.some.inj h
      subst e
      exact OM.of op_lt ⟨_, _, rfl, rfl, g⟩
    · cases h
  | LtE =>
    simp only [cmpD] at h
    split at h
    · rw [rv_int h1, rv_int h2]
      have e := Option.some.inj h
      subst e
      exact OM.of op_le ⟨_, _, rfl, rfl, g⟩
    · cases h
  | Gt =>
    simp only [cmpD] at h
    split at h
    · rw [rv_int h1, rv_int h2]
      have e := Option.some.inj h
      subst e
      exact OM.of op_gt ⟨_, _, rfl, rfl, g⟩
    · cases h
  | GtE =>
    simp only [cmpD] at h
    split at h
    · rw [rv_int h1, rv_int h2]
      have e := Option.some.inj h
      subst e
      exact OM.of op_ge ⟨_, _, rfl, rfl, g⟩
    · cases h
end
end L2.MP
namespace L2.MP
open PySem PySem.Spec PyProof.Rows
section
variable {ec : EC} {r : RC} {σ : St} {Q : VK} {W : WX} {X : Cx} {B : RB} {k : Nat} {x y : D} {v1 v2 v : V}
theorem len_str (s : List Nat) : (⟨s.toArray⟩ : Str).length = s.length := by simp [Str.length]
theorem tru_len (n : Nat) (l : List Nat) (h : n = l.length) : (((n : Nat) : Int) != 0) = !l.isEmpty := by
  subst h
  cases l with
  | nil => rfl
  | cons a l =>
    simp only [List.length_cons, List.isEmpty_cons, Bool.not_false, bne_iff_ne, ne_eq]
    omega
theorem emp_eq {xs : List D} {vs : List V} (h : RVs r xs vs) : vs.isEmpty = xs.isEmpty := by
  cases xs with
  | nil => rw [RVs.invN h]; rfl
  | cons a l =>
    obtain ⟨v, ws, rfl, _⟩ := RVs.inv h
    rfl
theorem truD_ok {b : Bool} (R : Rep r) (h : truD r.ns x = some b) (q : RV r x v) : TruV r.B.K v r.H b := by
  cases x with
  | non => rw [rv_non q]; exact (Option.some.inj h).symm
  | bl c => rw [rv_bl q]; exact (Option.some.inj h).symm
  | int i =>
    rw [rv_int q]
    have e := Option.some.inj h
    show b = (i != 0)
    rw [← e]
    by_cases hi : i = 0
    · subst hi; rfl
    · simp [hi]
  | str s =>
    obtain ⟨rfl, _⟩ := rv_str q
    simp only [truD] at h
    split at h
    · rename_i hz
      have e := Option.some.inj h
      refine ⟨by rw [len_str]; exact le_line hz, ?_⟩
      rw [← e, len_str]
      exact (tru_len _ s rfl).symm
    · cases h
  | tup xs =>
    obtain ⟨a, vs, rfl, p, q⟩ := tup_inv q
    have e := Option.some.inj h
    exact .inr (.inl ⟨vs, p, by rw [← e, emp_eq q]⟩)
  | lst xs =>
    obtain ⟨a, vs, rfl, p, q⟩ := lstV_inv (d := .lst xs) R rfl q
    have e := Option.some.inj h
    exact .inl ⟨vs, SqL.of p, by rw [← e, emp_eq q]⟩
  | ref i =>
    simp only [truD, Option.map_eq_some_iff] at h
    obtain ⟨xs, hx, e⟩ := h
    obtain ⟨a, vs, rfl, p, q⟩ := lstV_inv (d := .ref i) (xs := xs) R hx q
    exact .inl ⟨vs, SqL.of p, by rw [← e, emp_eq q]⟩
  | exn c fs => cases h
  | dic ks vs =>
    simp only [RV] at q
    obtain ⟨a, rfl, p, _, rfl, rfl⟩ := q
    exact .inr (.inr ⟨[], p, (Option.some.inj h).symm⟩)
  | scr ns => cases h
  | kup ns => cases h
theorem RVs.atI {xs : List D} {vs : List V} {d : D} {i : Int} (h : RVs r xs vs) (e : L2.atI xs i = some d) : ∃ v, L2.atI vs i = some v ∧ RV r d v := by
  unfold L2.atI at e ⊢
  rw [← h.length]
  cases q : ixN xs.length i with
  | none => rw [q] at e; cases e
  | some j =>
    rw [q] at e
    exact RVs.get h e
/-- d[k] -/
theorem ix_hd {X : Cx} (hu : X.A.units + 1 < cLine) : IxR X (fun x y H Q => ∃ a v, x = .ref a ∧ DGet H a y (some v) ∧ Q v H) := by
  intro value slice pins s σ H x y v u Q I rx ry h hs
  obtain ⟨a, w, rfl, g, q⟩ := h
  obtain rfl : v = Value.ref a := rx
  exact tail_any (dict_typeIs I g) PySem.F.slot_dict_getitem.lookup (d_getItem hu I g ry fun w' s3 I3 rw' => ⟨w, H, I3, rw', q⟩) hs
def rIx2 (K : PySem.W.Frag) : R2 := fun x y H Q => rIx K x y H Q ∨ ∃ a v, x = .ref a ∧ DGet H a y (some v) ∧ Q v H
theorem ix_all {X : Cx} (hu : X.A.units + 1 < cLine) : IxR X (rIx2 X.K) := IxR.or ix_seq (ix_hd hu)
theorem ix_ok (ok : XOk B k X) (eB : r.B = B) (R : Rep r) {d : D} (h1 : RV r x v1) (h2 : RV r y v2) (h : ixD r.ns x y = some d) (g : ∀ v r', Ext r r' → r'.ns = r.ns → Rep r' → RV r' d v → Q v r'.H) : rIx2 X.K v1 v2 r.H Q := by
  have eK : X.K = r.B.K := by rw [ok.K, eB]
  rw [eK]
  unfold ixD at h
  split at h
  · rename_i i
    rw [rv_int h2]
    split at h
    · rename_i s
      split at h
      · rename_i hz
        simp only [Option.map_eq_some_iff] at h
        obtain ⟨c, hc, rfl⟩ := h
        obtain ⟨rfl, o⟩ := rv_str h1
        refine .inl (.inr (.inr ⟨_, _, c, rfl, rfl, by rw [len_str]; exact le_line hz, hc, g _ r (Ext.refl r) rfl R ?_⟩))
        simp only [RV]
        refine ⟨trivial, fun z hm => ?_⟩
        obtain rfl := List.mem_singleton.mp hm
        unfold L2.atI at hc
        cases q : ixN s.length i with
        | none => rw [q] at hc; cases hc
        | some j =>
          rw [q] at hc
          exact o _ (List.mem_of_getElem? hc)
      · cases h
    · rename_i ns
      simp only [Option.map_eq_some_iff] at h
      obtain ⟨z, hz, rfl⟩ := h
      simp only [RV] at h1
      obtain ⟨a, rfl, sq⟩ := h1
      refine .inl (.inl ⟨a, _, i, .int z, rfl, rfl, sq.sq, ?_, g _ r (Ext.refl r) rfl R (mk_int z)⟩)
      unfold L2.atI at hz ⊢
      rw [List.length_map]
      cases q : ixN ns.length i with
      | none => rw [q] at hz; cases hz
      | some j =>
        rw [q] at hz
        show (ns.map V.int)[j]? = _
        rw [List.getElem?_map]
        have hz' : ns[j]? = some z := hz
        rw [hz']
        rfl
    · simp only [Option.bind_eq_some_iff] at h
      obtain ⟨xs, hx, e⟩ := h
      obtain ⟨a, vs, rfl, p, q⟩ := seqV_inv R hx h1
      obtain ⟨u, e2, q2⟩ := RVs.atI q e
      rcases p with p | p
      · exact .inl (.inl ⟨a, vs, i, u, rfl, rfl, p, e2, g u r (Ext.refl r) rfl R q2⟩)
      · exact .inl (.inr (.inl ⟨a, vs, i, u, rfl, rfl, p, e2, g u r (Ext.refl r) rfl R q2⟩))
  · simp only [Option.bind_eq_some_iff] at h
    obtain ⟨⟨ks, vs⟩, hd, h⟩ := h
    obtain ⟨i, kvs, rfl, rfl, e0, e1, rfl, e3, e4⟩ := dic_inv R hd h1
    obtain ⟨q, rfl, e5, _⟩ := key_inv rfl h2
    rw [← e5] at h
    obtain ⟨w, e6, e7⟩ := (getK_val e4).1 _ h
    exact .inr ⟨_, w, rfl, e6 ▸ DGet.k e1, g w r (Ext.refl r) rfl R e7⟩
  · simp only [Option.bind_eq_some_iff] at h
    obtain ⟨⟨ks, vs⟩, hd, h⟩ := h
    obtain ⟨i, kvs, rfl, rfl, e0, e1, rfl, e3, e4⟩ := dicT_inv R hd h1
    obtain ⟨b, q, rfl, e5, e8, _⟩ := kup_inv h2
    rw [e8] at h
    obtain ⟨w, e6, e7⟩ := (getK_valG keyT_inj e4).1 _ h
    exact .inr ⟨_, w, rfl, e6 ▸ DGet.t e1 e5, g w r (Ext.refl r) rfl R e7⟩
  · cases h
theorem RVs.cut {xs : List D} {vs : List V} (h : RVs r xs vs) (lo hi : Option Int) : RVs r (cutL xs lo hi) (cutV vs lo hi) := by
  unfold cutL cutV
  rw [← h.length]
  exact (h.drop _).take _
theorem cut_whole {α : Type} {xs : List α} {lo hi : Option Int} (h : HT.sIx xs.length 0 lo = 0 ∧ HT.sIx xs.length xs.length hi = xs.length) : cutL xs lo hi = xs := by
  unfold cutL
  rw [h.1, h.2]
  simp
def rSl3 (K : PySem.W.Frag) : V → Option Int → Option Int → Hp → VK → Prop := fun x lo hi H Q => rSlS x lo hi H Q ∨ (rSlA K x lo hi H Q ∨ rSlL K x lo hi H Q)
theorem sl_3 {X : Cx} : SlR X (rSl3 X.K) := SlR.or sl_str (SlR.or sl_tupA sl_list)
theorem rvs_ints {r : RC} : ∀ ns : List Int, RVs r (ns.map D.int) (ns.map V.int)
  | [] => RVs.nil
  | n :: ns => RVs.cons (mk_int n) (rvs_ints ns)
theorem sl_ok (ok : XOk B k X) (eB : r.B = B) (R : Rep r) {d : D} {lo hi : Option Int} (h1 : RV r x v1) (h : slD r.ns x lo hi = some d) (g : GV ec r σ Q W (.ok d r.ns)) : rSl3 X.K v1 lo hi r.H Q := by
  have eK : X.K = r.B.K := by rw [ok.K, eB]
  rw [eK]
  unfold slD at h
  split at h
  · rename_i s
    split at h
    · rename_i hz
      obtain rfl := Option.some.inj h
      obtain ⟨rfl, o⟩ := rv_str h1
      refine .inl ⟨_, rfl, by rw [len_str]; exact le_line hz, ?_⟩
      have e : cutS (⟨s.toArray⟩ : Str) lo hi = ⟨(cutL s lo hi).toArray⟩ := by
        unfold cutS cutL
        rw [len_str]
      rw [e]
      exact done R g (mk_str fun c hc => o c (List.mem_of_mem_drop (List.mem_of_mem_take hc)))
    · cases h
  · rename_i xs
    obtain rfl := Option.some.inj h
    obtain ⟨a, vs, rfl, p, q⟩ := tup_inv h1
    refine .inr (.inl ⟨a, vs, rfl, p, fun hw => ?_, fun _ t ht => ?_⟩)
    · rw [cut_whole (by rw [q.length]; exact hw)] at g
      exact done R g (mk_tup p q)
    · obtain ⟨e, R', q'⟩ := new_tup R ht (q.cut lo hi)
      exact g { r with H := upd r.H t (.tup _) } (.ref t) rfl e R' q'
  · rename_i ns
    obtain rfl := Option.some.inj h
    simp only [RV] at h1
    obtain ⟨a, rfl, sq⟩ := h1
    have q : RVs r (ns.map D.int) (ns.map V.int) := rvs_ints ns
    refine .inr (.inr ⟨a, ns.map V.int, rfl, sq.sq, fun t ht => ?_⟩)
    obtain ⟨e, R', q'⟩ := new_lst R ht (q.cut lo hi)
    exact g { r with H := upd r.H t (.lst _) } (.ref t) rfl e R' q'
  · simp only [Option.map_eq_some_iff] at h
    obtain ⟨xs, hx, rfl⟩ := h
    obtain ⟨a, vs, rfl, p, q⟩ := lstV_inv R hx h1
    refine .inr (.inr ⟨a, vs, rfl, SqL.of p, fun t ht => ?_⟩)
    obtain ⟨e, R', q'⟩ := new_lst R ht (q.cut lo hi)
    exact g { r with H := upd r.H t (.lst _) } (.ref t) rfl e R' q'
theorem len_ok (ok : XOk B k X) (eB : r.B = B) (R : Rep r) {nd : Bool} (h : RV r x v) (g : GV ec r σ Q W (biD .len nd [x] r.ns)) : CM X (.builtin "len") σ [v] r.H Q := by
  have eK : X.K = r.B.K := by rw [ok.K, eB]
  simp only [biD] at g
  split at g
  · obtain ⟨hz, g⟩ := Good.ite g
    obtain ⟨rfl, _⟩ := rv_str h
    refine CM.of call_len ⟨_, _, rfl, ⟨by rw [len_str]; exact le_line hz, rfl⟩, ?_⟩
    rw [len_str]
    exact done R g (mk_int _)
  · rename_i ns
    simp only [RV] at h
    obtain ⟨a, rfl, sq⟩ := h
    refine CM.of call_len ⟨_, _, rfl, .inl ⟨_, eK ▸ sq.sq, rfl⟩, ?_⟩
    rw [List.length_map]
    exact done R g (mk_int _)
  · obtain ⟨xs, hx, g⟩ := Good.of g
    obtain ⟨a, vs, rfl, p, q⟩ := seqV_inv R hx h
    rw [q.length] at g
    rcases p with p | p
    · exact CM.of call_len ⟨_, _, rfl, .inl ⟨vs, eK ▸ p, rfl⟩, done R g (mk_int _)⟩
    · exact CM.of call_len ⟨_, _, rfl, .inr ⟨vs, eK ▸ p, rfl⟩, done R g (mk_int _)⟩
theorem strs_inv : ∀ {xs : List D} {vs : List V} {ss : List (List Nat)}, RVs r xs vs → strsO xs = some ss → vs = (ss.map SX.S).map V.str ∧ ∀ s ∈ ss, okS s
  | [], vs, ss, h, e => by
    cases e
    rw [RVs.invN h]
    exact ⟨rfl, fun _ h => nomatch h⟩
  | x :: xs, vs, ss, h, e => by
    obtain ⟨v, ws, rfl, h1, h2⟩ := RVs.inv h
    obtain ⟨s, ss', e1, e2, rfl⟩ := mapO_cons e
    obtain ⟨rfl, o⟩ := strs_inv h2 e2
    cases x with
    | str t =>
      cases e1
      obtain ⟨rfl, o1⟩ := rv_str h1
      exact ⟨rfl, fun z hz => (List.mem_cons.mp hz).elim (fun q => q ▸ o1) (o z)⟩
    | _ => cases e1
theorem bools_inv : ∀ {xs : List D} {vs : List V} {bs : List Bool}, RVs r xs vs → boolsO xs = some bs → vs = bs.map V.bl
  | [], vs, bs, h, e => by
    cases e
    rw [RVs.invN h]
    rfl
  | x :: xs, vs, bs, h, e => by
    obtain ⟨v, ws, rfl, h1, h2⟩ := RVs.inv h
    obtain ⟨b, bs', e1, e2, rfl⟩ := mapO_cons e
    rw [bools_inv h2 e2]
    cases x with
    | bl t =>
      cases e1
      rw [rv_bl h1]
      rfl
    | _ => cases e1
theorem ints_inv : ∀ {xs : List D} {vs : List V} {bs : List Int}, RVs r xs vs → intsO xs = some bs → vs = bs.map V.int
  | [], vs, bs, h, e => by
    cases e
    rw [RVs.invN h]
    rfl
  | x :: xs, vs, bs, h, e => by
    obtain ⟨v, ws, rfl, h1, h2⟩ := RVs.inv h
    obtain ⟨b, bs', e1, e2, rfl⟩ := mapO_cons e
    rw [ints_inv h2 e2]
    cases x with
    | int t =>
      cases e1
      rw [rv_int h1]
      rfl
    | _ => cases e1
theorem rvs_strs : ∀ {ss : List (List Nat)}, (∀ s ∈ ss, okS s) → RVs r (ss.map D.str) ((ss.map SX.S).map V.str)
  | [], _ => RVs.nil
  | s :: ss, o => RVs.cons (mk_str (o s List.mem_cons_self)) (rvs_strs fun z hz => o z (List.mem_cons_of_mem _ hz))
theorem split_eq (c : Nat) : ∀ (s acc : List Nat), TL.spl [c] 0 acc s = match splitL c s with
    | [] => [acc]
    | w :: ws => (acc ++ w) :: ws
  | [], acc => by simp [splitL, TL.spl]
  | x :: xs, acc => by
    have hp : TL.pre [c] (x :: xs) = decide (x = c) := by
      unfold TL.pre
      simp only [List.length_singleton, List.take_succ_cons, List.take_zero]
      rw [Bool.eq_iff_iff]
      simp
    by_cases h : x = c
    · rw [TL.spl_hit (by rw [hp]; exact decide_eq_true h)]
      show acc :: TL.spl [c] 0 [] xs = _
      rw [split_eq c xs []]
      simp only [splitL, if_pos h, List.append_nil]
      cases e : splitL c xs with
      | nil => exact absurd e (splitL_ne c xs)
      | cons w ws => rfl
    · rw [TL.spl_miss (by rw [hp]; exact decide_eq_false h), split_eq c xs]
      simp only [splitL, if_neg h]
      cases e : splitL c xs with
      | nil => exact absurd e (splitL_ne c xs)
      | cons w ws => simp
where splitL_ne (c : Nat) : ∀ s : List Nat, splitL c s ≠ []
  | [] => by simp [splitL]
  | x :: xs => by
    unfold splitL
    split
    · simp
    · split <;> simp
theorem split_ok {c : Nat} (hc : c < 256) (s : List Nat) : Txt.split (SX.S s) (SX.S [c]) = (splitL c s).map SX.S := by
  rw [SX.split_S (by simp) (by simp [hc]), split_eq c s []]
  cases e : splitL c s with
  | nil => exact absurd e (split_eq.splitL_ne c s)
  | cons w ws => rfl
theorem part_eq (c : Nat) : ∀ (s acc : List Nat), TL.par [c] acc s = (partS c s).map fun p => (acc ++ p.1, p.2)
  | [], acc => by simp [partS, TL.par]
  | x :: xs, acc => by
    have hp : TL.pre [c] (x :: xs) = decide (x = c) := by
      unfold TL.pre
      simp only [List.length_singleton, List.take_succ_cons, List.take_zero]
      rw [Bool.eq_iff_iff]
      simp
    unfold TL.par partS
    rw [hp]
    by_cases h : x = c
    · simp [h]
    · simp only [h, decide_false, Bool.false_eq_true, if_false, Option.map_map]
      rw [part_eq c xs]
      congr 1
      funext p
      simp
theorem join_eqL (c : List Nat) : ∀ ws : List (List Nat), TL.joinL c ws = joinL c ws
  | [] => rfl
  | [_] => rfl
  | x :: y :: r => by
    show x ++ (c ++ TL.joinL c (y :: r)) = x ++ c ++ joinL c (y :: r)
    rw [join_eqL c (y :: r), List.append_assoc]
theorem ok_split {c : Nat} : ∀ {s : List Nat}, okS s → ∀ w ∈ splitL c s, okS w
  | [], _, w, h => by
    simp only [splitL, List.mem_singleton] at h
    subst h
    exact fun _ h => nomatch h
  | x :: xs, o, w, h => by
    have o2 : okS xs := fun z hz => o z (List.mem_cons_of_mem _ hz)
    unfold splitL at h
    split at h
    · rcases List.mem_cons.mp h with rfl | h
      · exact fun _ h => nomatch h
      · exact ok_split o2 w h
    · split at h
      · obtain rfl := List.mem_singleton.mp h
        exact fun z hz => by obtain rfl := List.mem_singleton.mp hz; exact o _ List.mem_cons_self
      · rename_i w' ws e
        have ih := ok_split (c := c) o2
        rw [e] at ih
        rcases List.mem_cons.mp h with rfl | h
        · intro z hz
          rcases List.mem_cons.mp hz with rfl | hz
          · exact o _ List.mem_cons_self
          · exact ih w' List.mem_cons_self z hz
        · exact ih w (List.mem_cons_of_mem _ h)
theorem ok_part {c : Nat} : ∀ {s a b : List Nat}, okS s → partS c s = some (a, b) → okS a ∧ okS b ∧ c < 1114112
  | [], _, _, _, h => by cases h
  | x :: xs, a, b, o, h => by
    have o2 : okS xs := fun z hz => o z (List.mem_cons_of_mem _ hz)
    unfold partS at h
    split at h
    · rename_i e
      cases h
      exact ⟨(fun _ h => nomatch h), o2, e ▸ o _ List.mem_cons_self⟩
    · simp only [Option.map_eq_some_iff] at h
      obtain ⟨⟨a', b'⟩, h1, h2⟩ := h
      cases h2
      obtain ⟨p, q, t⟩ := ok_part o2 h1
      exact ⟨fun z hz => (List.mem_cons.mp hz).elim (fun e => e ▸ o _ List.mem_cons_self) (p z), q, t⟩
theorem ok_join {c : List Nat} (hc : okS c) : ∀ {ws : List (List Nat)}, (∀ w ∈ ws, okS w) → okS (joinL c ws)
  | [], _ => fun _ h => nomatch h
  | [w], o => o w List.mem_cons_self
  | x :: y :: r, o => fun z hz => by
    rcases List.mem_append.mp hz with hz | hz
    · rcases List.mem_append.mp hz with hz | hz
      · exact o x List.mem_cons_self z hz
      · exact hc z hz
    · exact ok_join hc (fun w hw => o w (List.mem_cons_of_mem _ hw)) z hz
theorem join_len (c : List Nat) : ∀ ws : List (List Nat), (ws.map List.length).sum + ws.length * c.length ≤ (joinL c ws).length + c.length
  | [] => by simp [joinL]
  | [w] => by simp [joinL]
  | x :: y :: r => by
    have ih := join_len c (y :: r)
    show (x.length + ((y :: r).map List.length).sum) + ((y :: r).length + 1) * c.length ≤ (x ++ c ++ joinL c (y :: r)).length + c.length
    rw [List.length_append, List.length_append, Nat.add_mul]
    omega
end
end L2.MP
namespace L2.MP
open PySem PySem.Spec PyProof.Rows
/-- what a def does, wherever no repr is under way -/
structure FnG (P : Program) (w : World) (K : PySem.W.Frag) (mg : Str → Option Value) (base : Heap) (CX : CXT) (k : Nat) (f : Addr) (fd : FuncData) (ps : List Str) (sp : Sp) : Prop where
  size : ∀ {vs : List V} {H : Hp} {Q : VK} {E : XK}, sp vs H Q E → vs.length = ps.length
  go : ∀ {A : Around} {env0 : List Env} {s : Shared} {H : Hp} {args : Args} {us : List Value} {vs : List V} {Q : VK} {E : XK}, A.guards = some [] → Room k A → Env0 P w K mg base A env0 s H →
    BindsTo s fd args (ps.zip us) → Vals vs us → sp vs H Q E → codeAny (model P w) A (.call (.ref f) args) (CR CX env0 P w H s Q E) s
section
variable {X : Cx} {CX : CXT} {k : Nat} {f : Addr} {fd : FuncData} {ps : List Str} {sp : Sp} {dvs : List V} {ds : List Value} {E : St → XK} {x : Str} {p pos : Pos} {e : Expr} {es : List Expr} {t : TA}
theorem run_g {pins : List (Addr × Obj)} {σ : St} {H : Hp} {s : Shared} {Q : VK} {us : List Value} {vs : List V} (F : FnG X.prog X.w X.K X.mg X.base CX k f fd ps sp) (gd : X.A.guards = some []) (hr : Room k X.A) (hb : Binds X.K fd ps []) (hx : PassesAt CX X σ (E σ))
    (I : Inv X pins σ H s) (r : Vals vs us) (h : sp vs H Q (E σ)) : wpAny (model X.prog X.w) X.A (call (.ref f) us) (EP X pins σ Q) X.xe s := by
  have hl : (us ++ []).length = ps.length := by
    rw [List.append_nil, ← r.length]
    exact F.size h
  have bb := hb s us I.kIn hl
  rw [List.append_nil] at bb
  have run := F.go (args := ⟨us, []⟩) gd hr I.env0 bb r h
  refine wpAny_call (codeAny_mono run ?_)
  rintro (e | fl) s' hq
  · exact hx pins H s e s' I hq
  · rcases fl with _ | _ | _ | u
    case ret => exact I.after hq
    all_goals exact False.elim hq
/-- f(e, ..) -/
theorem pe_callG (F : FnG X.prog X.w X.K X.mg X.base CX k f fd ps sp) (gd : X.A.guards = some []) (hr : Room k X.A) (hg : L2.Gl X x) (hm : X.mg x = some (.ref f)) (hk : PySem.W.keepIn X.K (.ref f) = true) (hb : Binds X.K fd ps []) (hx : ∀ σ, PassesAt CX X σ (E σ))
    (ha : PA X (e :: es) t) (hdb : (x == ("__debug__" : Str)) = false) (he : starEach (e :: es) X.env = (false, eval e X.env) :: starEach es X.env) (hpl : (backTo pos (starEach es X.env)).any (·.1) = false) :
    PE X (.Call (.Name x p) (e :: es) [] pos) (fun σ H Q => t σ H fun vs H1 => sp vs H1 Q (E σ)) := ⟨fun pins s σ H Q I h => by
  have args := fun (s0 : Shared) (J : Inv X pins σ H s0) => thn (ha.run pos pins s0 σ H _ J h) fun us s1 ⟨vs, H1, I1, r, q⟩ => (⟨I1.kIn, run_g F gd hr hb (hx σ) I1 r q⟩ : X.K.In s1.heap ∧ wpAny (model X.prog X.w) X.A (call (.ref f) us) (EP X pins σ Q) X.xe s1)
  exact wpAny_Call_Name_kw (ld_glob I hg hm (PySem.W.callWith_K (h₀ := X.base) I.ok.mod.kin hk (args s I) he hpl) hdb)⟩
theorem pe_callG0 (F : FnG X.prog X.w X.K X.mg X.base CX k f fd ps sp) (gd : X.A.guards = some []) (hr : Room k X.A) (hg : L2.Gl X x) (hm : X.mg x = some (.ref f)) (hk : PySem.W.keepIn X.K (.ref f) = true) (hb : Binds X.K fd ps []) (hx : ∀ σ, PassesAt CX X σ (E σ))
    (hdb : (x == ("__debug__" : Str)) = false) : PE X (.Call (.Name x p) [] [] pos) (fun σ H Q => sp [] H Q (E σ)) := ⟨fun pins s σ H Q I h => by
  refine wpAny_Call_Name_kw (ld_glob I hg hm ?_ hdb)
  exact PySem.W.callWith_K0 I.kIn hk (run_g (us := []) F gd hr hb (hx σ) I .nil h)⟩
end
/-- a def's promise, by its body -/
theorem fnG_of {CX : CXT} {P : Program} {w : World} {K : PySem.W.Frag} {mg : Str → Option Value} {base : Heap} {k : Nat} {f : Addr} {x qual : Str} {params : Arguments} {body : List Stmt} {scope : Scope} {fd : FuncData} {N ps : List Str} {sp : Sp}
    (F : FunD K x qual params body scope [] [] f fd) (S : FnScope N ps scope) (size : ∀ {vs : List V} {H : Hp} {Q : VK} {E : XK}, sp vs H Q E → vs.length = ps.length)
    (hbody : ∀ (cdv : Value) (A : Around) (env0 : List Env) (s : Shared) (H : Hp) (vs : List V) (Q : VK) (E : XK), (A.deeper (envOfC qual scope s.heap.objs.size f cdv)).guards = some [] → Room k (A.deeper (envOfC qual scope s.heap.objs.size f cdv)) → sp vs H Q E →
      ∃ t, PSs (cxOf CX P w K mg base N qual scope f cdv A env0 s H E) body t ∧ t { nx := fun _ H' => Q .non H', rt := Q } (start N vs) H) : FnG P w K mg base CX (k + 1) f fd ps sp := by
  obtain ⟨oc, od, dV, kV, doc, pm, an, cdv, ct, osl, rfl, lk, hcd, _, _⟩ := F.ex
  refine ⟨size, ?_⟩
  intro A env0 s H args us vs Q E gd hr e0 hb r hsp
  have old : ∀ b o, base.get? b = some o → s.heap.get? b = some o := fun b o z => (e0.bs b o z).1
  have KX := e0.mod.kin.keeps old
  have nl := e0.mod.nolimit.keeps old
  have hk : ∀ y ∈ ps.zip us, scope.names.lookup y.1 = some .local ∨ (scope.names.lookup y.1 = some .cell ∧ ((cellsFrom (s.heap.objs.size + 1) scope.names []).lookup y.1).isSome = true) := by
    rintro ⟨n, v⟩ hy
    have hn := S.par n (List.of_mem_zip hy).1
    exact hn.imp id fun q => ⟨q, PySem.W.cellsFrom_some _ _ _ (.inl q)⟩
  have inner : ∀ env, env = envOfC qual scope s.heap.objs.size f cdv → True := fun _ _ => trivial
  refine codeAny_call_function hr.depth (KX _ _ lk) rfl S.co S.gen rfl (PySem.W.codeRec_of KX hcd) (hb _ _ _ _ (wpAny_newFunctionEnv_cells S.kind hk ?_))
  rintro env rfl s1 x1
  refine ⟨nl.keeps x1.toInCall.keep, codeAny_func ?_⟩
  obtain ⟨t, ht, hq⟩ := hbody cdv A env0 s H vs Q E gd (hr.deeper _) hsp
  have I := inv_start (CX := CX) (E := E) S hr.hd e0 (size hsp) r x1
  have ends : ∀ {σ' : St} {H' : Hp} {s' : Shared} {v : V} {u : Value}, Inv (cxOf CX P w K mg base N qual scope f cdv A env0 s H E) [] σ' H' s' → RelV v u → Q v H' → CE env0 P w H s Q u s' := by
    intro σ' H' s' v u J rv q
    exact ⟨v, H', J.os, J.bare, J.base, J.hok, rv, q⟩
  refine wpAny_mono (ht.run [] s1 (start N vs) H _ I hq) ?_ (fun _ _ z => z)
  rintro (_ | _ | _ | u) s' hs
  · exact let ⟨_, _, J, q⟩ := hs; ends (v := .non) (u := .none) J rfl q
  · exact let ⟨_, _, _, q⟩ := hs; q.elim
  · exact let ⟨_, _, _, q⟩ := hs; q.elim
  · exact let ⟨_, _, _, J, rv, q⟩ := hs; ends J rv q
/-- the heap that a law starts with: the script alone is tracked -/
theorem law_heap {P : Program} {w : World} {K : PySem.W.Frag} {a : Addr} {h : Heap} {vs : List Value} {ns : List Int} (KX : K.In h) (ha : h.get? a = some { cls := .type "list", data := .seq vs.toArray }) (hi : IntsAre vs ns) (hl : ns.length ≤ sizeLine) :
    ∃ H : Hp, Only H ∧ SqL K H a (ns.map V.int) ∧ HOk P w H h ∧ (∀ b, H b ≠ none → b = a) ∧ (H a ≠ none → K.lookup a = none) := by
  have rv := vals_ints hi
  have hn := hi.length
  rcases hk : K.lookup a with _ | o
  · let u : HO := .frz { cls := .type "list", data := .seq vs.toArray } (.lst (ns.map V.int))
    have at_a : (if a = a then some u else none) = some u := if_pos rfl
    refine ⟨fun b => if b = a then some u else none, fun b => ?_, .inl (.inr ⟨_, at_a⟩), fun b v z => ?_, fun b z => ?_, fun _ => rfl⟩
    · rcases Decidable.em (b = a) with e | e
      · exact .inr ⟨_, _, if_pos e⟩
      · exact .inl (if_neg e)
    · rcases Decidable.em (b = a) with e | e
      · have z2 := (if_pos e).symm.trans z
        cases z2
        rw [e]
        exact ⟨ha, by rw [List.length_map]; exact hl, vs, _, rv, ha⟩
      · exact nomatch (if_neg e).symm.trans z
    · exact Decidable.byContradiction fun e => z (if_neg e)
  · have e := KX a o hk
    rw [ha] at e
    cases e
    have hz : vs.toArray.size ≤ sizeLine := by rw [List.size_toArray, hn]; exact hl
    have sq : SqL K (fun _ => none) a (ns.map V.int) := .inr ⟨_, vs.toArray, _, hk, rfl, rfl, rfl, hz, by simpa using rv⟩
    have ok : HOk P w (fun _ => none) h := fun b u z => by
      have z2 : (none : Option HO) = some u := z
      cases z2
    exact ⟨fun _ => none, fun _ => .inl rfl, sq, ok, fun b z => absurd rfl z, fun z => absurd rfl z⟩
/-- a law's call -/
theorem law_g {P : Program} {w : World} {K : PySem.W.Frag} {mg mb : Str → Option Value} {CX : CXT} {k : Nat} {fa a : Addr} {fd : FuncData} {x : Str} {sp : Sp} {t : Shared} {vs : List Value} {ns : List Int}
    (KX : K.In t.heap) (gm : t.heap.Ns mainGlobals mg) (gb : t.heap.Ns builtinsNs mb) (bb : ∀ x : Str, x ≠ "__name__" → mb x = bootBuiltins x) (nl : t.heap.NoLimit) (hg : t.gens = #[])
    (ha : t.heap.get? a = some { cls := .type "list", data := .seq vs.toArray }) (hi : IntsAre vs ns) (hl : ns.length ≤ sizeLine) (hr : Room k callerA)
    (F : ∀ base : Heap, K.In base → base.Ns mainGlobals mg → FnG P w K mg base CX k fa fd [x] sp) (bind : ∀ (s : Shared) (u : Value), BindsTo s fd ⟨[u], []⟩ [(x, u)])
    (hsp : ∀ H : Hp, SqL K H a (ns.map V.int) → sp [.ref a] H (fun v _ => v = .bl true) fun _ _ _ => False) (hCX : ∀ H e s', CX [] H t (fun _ _ _ => False) e s' → False) :
    codeAny (model P w) callerA (.call (.ref fa) ⟨[.ref a], []⟩) (fun r s' => r = .ok (.ret (.bool true)) ∧ OldK t.heap s'.heap ∧ s'.os = t.os ∧ AllBare s'.gens) t := by
  obtain ⟨H, only, hS, hok, hA, hK⟩ := law_heap (P := P) (w := w) KX ha hi hl
  have isA : ∀ {b : Addr} {o : Obj}, t.heap.get? b = some o → (b = a → False) → (hidT t.heap H).get? b = some o := fun {b o} e n => hidT_get e (Decidable.byContradiction fun z => n (hA b z))
  have ns1 : ∀ {b : Addr} {m : Str → Option Value}, t.heap.Ns b m → (hidT t.heap H).Ns b m := fun {b m} ⟨o, es, ep, e, d, r⟩ => by
    refine ⟨o, es, ep, isA e fun z => ?_, d, r⟩
    rw [z, ha] at e
    cases e
    exact nomatch d
  have kin : K.In (hidT t.heap H) := fun b o e => hidT_get (KX b o e) (Decidable.byContradiction fun z => by
    have z2 := hA b z
    rw [z2] at e z
    rw [hK z] at e
    cases e)
  have lim : (hidT t.heap H).NoLimit := nl.imp fun mc z => ⟨ns1 z.1, z.2⟩
  have env : Env0 P w K mg (hidT t.heap H) callerA [] t H := {
    frames := rfl
    mod := ⟨kin, ns1 gm, ⟨mb, ns1 gb, bb⟩, lim⟩
    bs := fun _ _ e => of_hidT e
    bsz := Nat.le_of_eq (hidT_size _ _)
    funs := trivial
    frf := fun b hb => nomatch hb
    hok := hok
    bare := .of_eq hg }
  refine codeAny_mono ((F _ kin (ns1 gm)).go (args := ⟨[.ref a], []⟩) (us := [.ref a]) (vs := [.ref a]) rfl hr env (bind t (.ref a)) (.cons rfl .nil) (hsp H hS)) ?_
  rintro (e | fl) s' h
  · exact (hCX H e s' h).elim
  rcases fl with _ | _ | _ | u
  case ret =>
    obtain ⟨v, H', os, bare, un, hok', rv, rfl⟩ := h
    cases (show u = Value.bool true from rv)
    refine ⟨rfl, OldK.of_keep fun b o e => ?_, os, bare⟩
    rcases only b with z | ⟨ob, xs, z⟩
    · exact un.keep b o e z (fun m => nomatch m) (fun m => nomatch m)
    · obtain ⟨e1, _⟩ := hok b _ z
      obtain ⟨e2, _⟩ := hok' b _ (un.frzs b ob _ z)
      rw [e] at e1
      cases e1
      exact e2
  all_goals exact False.elim h
end L2.MP
namespace L2.MP
open PySem PySem.Spec PyProof.Rows
theorem natOf_val : ∀ (s : List Nat) (n : Nat), natOf s n = s.foldl (fun acc c => acc * 10 + (c - 48)) n
  | [], _ => rfl
  | c :: s, n => by
    simp only [natOf, List.foldl_cons]
    rw [natOf_val s, Nat.mul_comm]
theorem digits_ok {s : List Nat} (h : s.all digit = true) : NumText.AllDigits s := fun c hc => by
  have := List.all_eq_true.mp h c hc
  simpa [digit] using this
section
variable {X : Cx} {B : RB} {k : Nat} {r : RC} {σ σ' : St} {Q : VK} {W : WX} {ec : EC}
theorem int_cm (R : Rep r) {nd : Bool} {xs : List D} {vs : List V} (h : RVs r xs vs) (g : GV ec r σ Q W (biD .int nd xs r.ns)) : CM X (.type "int") σ' vs r.H Q := by
  rcases xs with _ | ⟨x, _ | ⟨y, zs⟩⟩
  · exact False.elim g
  · obtain ⟨v, rfl, hv⟩ := RVs.single h
    cases x with
    | int i =>
      rw [rv_int hv]
      exact CM.of call_int1 (.inl ⟨i, rfl, done R g (mk_int _)⟩)
    | bl b =>
      rw [rv_bl hv]
      exact CM.of call_int1 (.inr ⟨b, rfl, done R g (mk_int _)⟩)
    | str s =>
      obtain ⟨rfl, _⟩ := rv_str hv
      simp only [biD] at g
      obtain ⟨⟨h1, h2, h3⟩, g⟩ := Good.ite g
      refine CM.of call_int_str ⟨_, _, rfl, intText_digits (x := ⟨s.toArray⟩) (by simpa using digits_ok h1) (by simpa using h2) ?_, ?_, ?_⟩
      · show s.toArray.size ≤ 4300
        simp; omega
      · show s.toArray.size ≤ 640
        simp; omega
      · have e : ((natOf s 0 : Nat) : Int) = ((NumText.digitsVal (⟨s.toArray⟩ : Str).cps.toList : Nat) : Int) := by
          rw [natOf_val]
          simp [NumText.digitsVal]
        rw [e] at g
        exact done R g (mk_int _)
    | _ => exact False.elim g
  · cases x <;> exact False.elim g
theorem okS_str (s : String) : okS (strS s) := by
  intro c hc
  have : (strS s) = s.toList.map Char.toNat := by
    unfold strS
    rw [Str.ofString_eq_toList]
  rw [this] at hc
  obtain ⟨ch, _, rfl⟩ := List.mem_map.mp hc
  have := ch.valid
  simp only [Char.toNat]
  rcases this with h | h
  · have h2 : ch.val.toNat < 0xd800 := h
    omega
  · exact h.2
theorem str_cm (R : Rep r) {nd : Bool} {xs : List D} {vs : List V} (h : RVs r xs vs) (g : GV ec r σ Q W (biD .str nd xs r.ns)) : CM X (.type "str") σ' vs r.H Q := by
  rcases xs with _ | ⟨x, _ | ⟨y, zs⟩⟩
  · exact False.elim g
  · obtain ⟨v, rfl, hv⟩ := RVs.single h
    cases x with
    | int i =>
      rw [rv_int hv]
      simp only [biD] at g
      obtain ⟨h1, g⟩ := Good.ite g
      refine CM.of call_str_int ⟨i, rfl, h1, ?_⟩
      have e : (Str.ofString (toString i)) = ⟨(intS i).toArray⟩ := by
        unfold intS strS
        simp
      show Q (.str (Str.ofString (toString i))) r.H
      rw [e]
      exact done R g (mk_str (okS_str _))
    | str s =>
      obtain ⟨rfl, o⟩ := rv_str hv
      exact CM.of SkE.call_str_str ⟨_, rfl, done R g (mk_str o)⟩
    | _ => exact False.elim g
  · cases x <;> exact False.elim g
/-- what a value is to repr -/
theorem readsAll_of {s : Shared} {r : RC} {n : Nat} (f : ∀ (d d' : D) (v : V) (u : Value) (pd : PyData), deep true r.ns n d = some d' → toPD d' = some pd → RV r d v → RelV v u → ∃ as, Reads s.heap u pd as ∧ sysModules ∉ as ∧ pd.depth ≤ n) :
    ∀ (ds ds' : List D) (vs : List V) (us : List Value) (pds : List PyData), mapO (deep true r.ns n) ds = some ds' → toPDs ds' = some pds → RVs r ds vs → Vals vs us → ∃ as, ReadsAll s.heap us pds as ∧ sysModules ∉ as ∧ PyData.depthAll pds ≤ n
  | [], ds', vs, us, pds, h1, h2, h3, h4 => by
    cases h1
    cases h2
    cases RVs.invN h3
    cases h4
    exact ⟨[], ReadsAll.nil, by simp, by simp [PyData.depthAll]⟩
  | d :: ds, ds', vs, us, pds, h1, h2, h3, h4 => by
    simp only [mapO, Option.bind_eq_some_iff] at h1
    obtain ⟨d1, e1, ds1, e2, e3⟩ := h1
    cases e3
    simp only [toPDs, Option.bind_eq_some_iff] at h2
    obtain ⟨p1, k1, ps1, k2, k3⟩ := h2
    cases k3
    obtain ⟨v, ws, rfl, r1, r2⟩ := RVs.inv h3
    cases h4 with
    | cons q1 q2 =>
      obtain ⟨as, a1, a2, a3⟩ := f _ _ _ _ _ e1 k1 r1 q1
      obtain ⟨bs, b1, b2, b3⟩ := readsAll_of f _ _ _ _ _ e2 k2 r2 q2
      refine ⟨as ++ bs, ReadsAll.cons a1 b1, ?_, ?_⟩
      · rw [List.mem_append]
        exact fun z => z.elim a2 b2
      · simp only [PyData.depthAll]
        omega
theorem rv_reads {pins : List (Addr × Obj)} {s : Shared} (R : Rep r) (eK : X.K = r.B.K) (I : Inv X pins σ r.H s) (hsys : ∃ o, X.K.lookup sysModules = some o ∧ o.cls = .type "dict") :
    ∀ (n : Nat) (d d' : D) (v : V) (u : Value) (pd : PyData), deep true r.ns n d = some d' → toPD d' = some pd → RV r d v → RelV v u → ∃ as, Reads s.heap u pd as ∧ sysModules ∉ as ∧ pd.depth ≤ n
  | 0, _, _, _, _, _, h, _, _, _ => by cases h
  | n + 1, d, d', v, u, pd, h1, h2, h3, h4 => by
    have all := readsAll_of (s := s) (rv_reads R eK I hsys n)
    have notl : ∀ {a : Addr} {o : Obj}, s.heap.get? a = some o → o.cls = .type "list" → a ≠ sysModules := fun {a o} ho hc z => by
      obtain ⟨o2, k1, k2⟩ := hsys
      have k3 := I.kIn _ _ k1
      rw [z, k3] at ho
      cases ho
      rw [k2] at hc
      injection hc with e
      exact absurd e (by decide)
    have lst : ∀ {a : Addr} {ds ds' : List D} {vs : List V} {pds : List PyData}, SqL r.B.K r.H a vs → RVs r ds vs → mapO (deep true r.ns n) ds = some ds' → toPDs ds' = some pds → ∃ as, Reads s.heap (.ref a) (.list pds) as ∧ sysModules ∉ as ∧ PyData.depth (.list pds) ≤ n + 1 := fun {a ds ds' vs pds} hs hr e1 e2 => by
      rw [← eK] at hs
      obtain ⟨its, rv, ⟨o, m, ho, hc, _, hd⟩, _⟩ := I.list hs
      obtain ⟨as, q1, q2, q3⟩ := all ds ds' vs its pds e1 e2 hr rv
      refine ⟨a :: as, Reads.list ho hc hd q1, ?_, ?_⟩
      · rw [List.mem_cons]
        exact fun z => z.elim (fun z => notl ho hc z.symm) q2
      · simp only [PyData.depth]; omega
    cases d with
    | non =>
      cases h1; cases h2
      rw [rv_non h3] at h4
      cases h4
      exact ⟨_, Reads.none, by simp, by simp [PyData.depth]⟩
    | bl b =>
      cases h1; cases h2
      rw [rv_bl h3] at h4
      cases h4
      exact ⟨_, Reads.bool b, by simp, by simp [PyData.depth]⟩
    | int i =>
      cases h1; cases h2
      rw [rv_int h3] at h4
      obtain ⟨t, rfl⟩ := h4
      exact ⟨_, Reads.int i t, by simp, by simp [PyData.depth]⟩
    | str x =>
      cases h1; cases h2
      rw [(rv_str h3).1] at h4
      obtain ⟨t, rfl⟩ := h4
      exact ⟨_, Reads.str _ t, by simp, by simp [PyData.depth]⟩
    | tup xs =>
      simp only [deep, Option.map_eq_some_iff] at h1
      obtain ⟨ys, e1, rfl⟩ := h1
      simp only [toPD, Option.map_eq_some_iff] at h2
      obtain ⟨pds, e2, rfl⟩ := h2
      simp only [RV] at h3
      obtain ⟨a, vs, rfl, hs, hr⟩ := h3
      cases (show u = Value.ref a from h4)
      rw [← eK] at hs
      obtain ⟨its, rv, ⟨o, ho, hc, m, hd⟩, _⟩ := I.tuple hs
      obtain ⟨as, q1, q2, q3⟩ := all xs ys vs its pds e1 e2 hr rv
      exact ⟨as, Reads.tuple ho hc hd q1, q2, by simp only [PyData.depth]; omega⟩
    | lst xs =>
      simp only [deep, Option.map_eq_some_iff] at h1
      obtain ⟨ys, e1, rfl⟩ := h1
      simp only [toPD, Option.map_eq_some_iff] at h2
      obtain ⟨pds, e2, rfl⟩ := h2
      simp only [RV] at h3
      obtain ⟨a, vs, rfl, hs, _, hr⟩ := h3
      cases (show u = Value.ref a from h4)
      exact lst (SqL.of hs) hr e1 e2
    | ref i =>
      simp only [deep, Option.bind_eq_some_iff, Option.map_eq_some_iff] at h1
      obtain ⟨xs, e0, ys, e1, rfl⟩ := h1
      simp only [toPD, Option.map_eq_some_iff] at h2
      obtain ⟨pds, e2, rfl⟩ := h2
      obtain ⟨a, vs, rfl, hs, hr⟩ := lstV_inv (d := .ref i) R (by simp only [lstV]; exact Option.bind_eq_some_iff.mpr e0) h3
      cases (show u = Value.ref a from h4)
      exact lst (SqL.of hs) hr e1 e2
    | exn c fs => cases h1
    | scr ns => cases h1
    | kup ns => cases h1
    | dic ks vs =>
      simp only [RV] at h3
      obtain ⟨a, rfl, hs, _, rfl, rfl⟩ := h3
      cases (show u = Value.ref a from h4)
      simp only [deep, if_true, mapO, Option.bind_some, Option.map_some, Option.some.injEq] at h1
      subst h1
      simp only [toPD, toPDs, Option.bind_some, Option.map_some, Option.some.injEq] at h2
      subst h2
      obtain ⟨_, hd, ws, kv, o, es, ep, ho, hx, hdat, _, hp, _⟩ := dk_of I.hok hs
      cases kv
      have he : es.toList = [] := by
        cases hl : es.toList with
        | nil => rfl
        | cons z zs => rw [hl] at hp; cases hp
      refine ⟨[a] ++ [], Reads.dict (kvs := []) ho hx.1 hdat (by rw [he]; exact ReadsAll.nil) (by rw [he]; exact ReadsAll.nil), ?_, ?_⟩
      · simp only [List.append_nil, List.mem_singleton]
        intro z
        rw [z] at hd
        simp at hd
      · simp [PyData.depth, PyData.depthKv]
theorem repr_cm (R : Rep r) (eK : X.K = r.B.K) (gd : X.A.guards = some []) (hu : X.A.units + 100 < cLine) (hsys : ∃ o, X.K.lookup sysModules = some o ∧ o.cls = .type "dict") {nd : Bool} {xs : List D} {vs : List V} (h : RVs r xs vs)
    (g : GV ec r σ Q W (biD .repr nd xs r.ns)) : CM X (.builtin "repr") σ' vs r.H Q := by
  rcases xs with _ | ⟨x, _ | ⟨y, zs⟩⟩
  · exact False.elim g
  · obtain ⟨v, rfl, hv⟩ := RVs.single h
    simp only [biD] at g
    obtain ⟨pd, hpd, g⟩ := Good.of g
    obtain ⟨⟨h1, h2, hok⟩, g⟩ := Good.ite g
    obtain ⟨d', e1, e2⟩ := Option.bind_eq_some_iff.mp hpd
    have h3 : pd.shown.length ≤ sizeLine := le_line h2
    intro pins s us I rv
    cases rv with
    | @cons _ u _ us ru rs =>
      cases rs
      obtain ⟨as, q1, q2, q3⟩ := rv_reads R eK I hsys 40 x d' v u pd e1 e2 hv ru
      have fin : ∀ {h' : Heap} {t tk : Nat}, (∀ b o, s.heap.get? b = some o → h'.get? b = some o) → EP X pins σ' Q (.str pd.shown t) { s with heap := h', toks := tk } := fun {h' t tk} k => by
        refine ⟨.str pd.shown, r.H, I.kept k, ⟨t, rfl⟩, ?_⟩
        have e : pd.shown = ⟨pd.shown.cps.toList.toArray⟩ := by simp
        have q := done R g (mk_str (okB_ok hok))
        rw [← e] at q
        exact q
      have same : ∀ b o, s.heap.get? b = some o → s.heap.get? b = some o := fun _ _ z => z
      cases q1 with
      | none => exact PySem.P.repr_of_none (by have := fin (t := s.toks) (tk := s.toks + 1) same; simpa [PyData.shown] using this)
      | bool b => exact PySem.P.repr_of_bool (by have := fin (t := s.toks) (tk := s.toks + 1) same; simpa [PyData.shown] using this)
      | int i t => exact PySem.P.repr_of_int (by simpa [PyData.showable] using h1) (by have := fin (t := s.toks) (tk := s.toks + 1) same; simpa [PyData.shown] using this)
      | str z t => exact PySem.P.repr_of_str (by have := fin (t := s.toks) (tk := s.toks + 1) same; simpa [PyData.shown] using this) (by simpa [PyData.shown] using h3)
      | list a1 a2 a3 a4 => exact repr_of_reads' (Reads.list a1 a2 a3 a4) h1 (fun _ => q2) gd (by omega) same (fun h' t tk k => fin k) h3
      | tuple a1 a2 a3 a4 => exact repr_of_reads' (Reads.tuple a1 a2 a3 a4) h1 (fun _ => q2) gd (by omega) same (fun h' t tk k => fin k) h3
      | dict a1 a2 a3 a4 a5 => exact repr_of_reads' (Reads.dict a1 a2 a3 a4 a5) h1 (fun _ => q2) gd (by omega) same (fun h' t tk k => fin k) h3
  · exact False.elim g
end
end L2.MP
namespace L2.MP
open PySem PySem.Spec PyProof.Rows
def TTM (X : Cx) (e : Expr) : TT := fun σ H Q => ∀ (pins : List (Addr × Obj)) (s : Shared), Inv X pins σ H s → wpAny (model X.prog X.w) X.A (PySem.isTrue e X.env (eval e X.env)) (TP X pins σ Q) X.xe s
theorem pt_ttm {X : Cx} {e : Expr} : PT X e (TTM X e) := ⟨fun pins s _ _ _ I h => h pins s I⟩
theorem TTM.of {X : Cx} {e : Expr} {t : TT} {σ : St} {H : Hp} {Q : Bool → Hp → Prop} (h : PT X e t) (q : t σ H Q) : TTM X e σ H Q := fun pins s I => h.run pins s σ H Q I q
def AM (X : Cx) (es : List Expr) : TA := fun σ H Q => ∀ (pos : Pos) (pins : List (Addr × Obj)) (s : Shared), Inv X pins σ H s → wpAny (model X.prog X.w) X.A (spliced (backTo pos (starEach es X.env))) (AP X pins σ Q) X.xe s
theorem pa_am {X : Cx} {es : List Expr} : PA X es (AM X es) := ⟨fun pos pins s _ _ _ I h => h pos pins s I⟩
theorem AM.of {X : Cx} {es : List Expr} {t : TA} {σ : St} {H : Hp} {Q : List V → Hp → Prop} (h : PA X es t) (q : t σ H Q) : AM X es σ H Q := fun pos pins s I => h.run pos pins s σ H Q I q
def OMm (X : Cx) (e : Option Expr) : TO := fun σ H Q => ∀ (pins : List (Addr × Obj)) (s : Shared), Inv X pins σ H s → wpAny (model X.prog X.w) X.A (evalPart e X.env) (fun u s' => ∃ o H', Inv X pins σ H' s' ∧ IsPart u o ∧ Q o H') X.xe s
theorem po_om {X : Cx} {e : Option Expr} : PO X e (OMm X e) := ⟨fun pins s _ _ _ I h => h pins s I⟩
theorem OMm.of {X : Cx} {e : Option Expr} {t : TO} {σ : St} {H : Hp} {Q : Option Int → Hp → Prop} (h : PO X e t) (q : t σ H Q) : OMm X e σ H Q := fun pins s I => h.run pins s σ H Q I q
def IM (X : Cx) (tg e : Expr) : TI := fun σ H R => ∀ (pins : List (Addr × Obj)) (s : Shared), Inv X pins σ H s →
  wpAny (model X.prog X.w) X.A (eval e X.env) (fun v s1 => wpAny (model X.prog X.w) X.A (pyIter v) (PIE X pins σ tg R) X.xe s1) X.xe s
theorem pi_im {X : Cx} {tg e : Expr} : PI X tg e (IM X tg e) := ⟨fun pins s _ _ _ I h => h pins s I⟩
theorem IM.of {X : Cx} {tg e : Expr} {t : TI} {σ : St} {H : Hp} {Q : It → Hp → Prop} (h : PI X tg e t) (q : t σ H Q) : IM X tg e σ H Q := fun pins s I => h.run pins s σ H Q I q
def GM (X : Cx) (tg : Expr) : TG := fun v σ H Q => ∀ (pins : List (Addr × Obj)) (s : Shared) (u : Value), Inv X pins σ H s → RelV v u →
  wpAny (model X.prog X.w) X.A (assign tg X.env u) (fun _ s' => ∃ σ' H', Inv X pins σ' H' s' ∧ Q σ' H') X.xe s
theorem pg_gm {X : Cx} {tg : Expr} : PG X tg (GM X tg) := ⟨fun pins s _ _ _ u _ I rv h => h pins s u I rv⟩
theorem GM.of {X : Cx} {tg : Expr} {t : TG} {v : V} {σ : St} {H : Hp} {Q : St → Hp → Prop} (h : PG X tg t) (q : t v σ H Q) : GM X tg v σ H Q := fun pins s u I rv => h.run pins s σ H v u Q I rv q
def GMs (X : Cx) (tgs : List Expr) : TGs := fun vs σ H Q => ∀ (pins : List (Addr × Obj)) (s : Shared) (us : List Value), Inv X pins σ H s → Vals vs us →
  wpAny (model X.prog X.w) X.A (assignInOrder (List.map (fun x => Prod.snd x) (assignEach tgs X.env)) us) (fun _ s' => ∃ σ' H', Inv X pins σ' H' s' ∧ Q σ' H') X.xe s
theorem pgs_gms {X : Cx} {tgs : List Expr} : PGs X tgs (GMs X tgs) := ⟨fun pins s _ _ _ us _ I rv h => h pins s us I rv⟩
theorem GMs.of {X : Cx} {tgs : List Expr} {t : TGs} {vs : List V} {σ : St} {H : Hp} {Q : St → Hp → Prop} (h : PGs X tgs t) (q : t vs σ H Q) : GMs X tgs vs σ H Q := fun pins s us I rv => h.run pins s σ H vs us Q I rv q
/-- what a def does, told by the interpreter -/
def spOf (ec : EC) (K : PySem.W.Frag) (fl : FL) (np : Nat) (g : List D → Hs → R D) : Sp := fun vs H Q E =>
  ∃ (r : RC) (xs : List D), r.B.K = K ∧ r.B.fl = fl ∧ r.B.xa = none ∧ r.H = H ∧ Rep r ∧ RVs r xs vs ∧ vs.length = np ∧ GV ec r [] Q (fun c d _ H => E c d H) (g xs r.ns)
def biN (x : Str) : Bool := (bi? x).isSome || memS ["isinstance", "range", "enumerate", "zip", "int", "bool", "str", "tuple", "list", "dict", "repr", "ValueError", "KeyError", "OverflowError"] x
/-- C(..) of an exception's class, fields fs -/
def tMkX (ec : EC) (fs : List Str) (c : Nat) (t : TA) : St → Hp → XK → Prop := fun σ H Q => t σ H fun vs H1 => vs.length = fs.length ∧ ((fs = [] ∧ Q (ec c) none H1) ∨ (fs ≠ [] ∧ ∀ d, H1 d = none → Q (ec c) (some d) (upd H1 d (.xd (fs.zip vs).reverse))))
/-- an own exception is made -/
def MkOk (ec : EC) (fl : FL) (X : Cx) (c : Nat) (x : Str) (n : Nat) (p pos : Pos) : Prop := (n = 0 → PMk X (.Call (.Name x p) [] [] pos) (tMkX ec (fl c) c tNil)) ∧ (n ≠ 0 → ∀ (e : Expr) (es : List Expr) (ta : TA), PA X (e :: es) ta → starEach (e :: es) X.env = (false, eval e X.env) :: starEach es X.env →
  (backTo pos (starEach es X.env)).any (·.1) = false → PMk X (.Call (.Name x p) (e :: es) [] pos) (tMkX ec (fl c) c ta))
/-- at a: a dict of the module, its keys and values -/
structure GdOk (K : PySem.W.Frag) (w : World) (a : Addr) (p : List (List Nat) × List D) : Prop where
  kd : ∃ es n, KDict K w a es n
  val : ∀ s d, getS s p.1 p.2 = some d → ∃ u v, PySem.W.nsIn K a (⟨s.toArray⟩ : Str) = some (some u) ∧ RelV v u ∧ ∀ r : RC, r.B.K = K → RV r d v
  has : ∀ s, ∃ o : Option Value, PySem.W.nsIn K a (⟨s.toArray⟩ : Str) = some o ∧ o.isSome = decide (s ∈ p.1)
structure WF (cf : Cf) (G : Gl) (C : Nat → List D → Hs → R D) (ec : EC) (k : Nat) (P : Program) (w : World) (K : PySem.W.Frag) (fl : FL) (mg : Str → Option Value) (base : Heap) : Prop where
  fn : ∀ (f : Nat) (x : Str), cf.fns[f]? = some x → (x == ("__debug__" : Str)) = false ∧ ∃ a fd ps, mg x = some (.ref a) ∧ PySem.W.keepIn K (.ref a) = true ∧ Binds K fd ps [] ∧ FnG P w K mg base (L2.CX P w) k a fd ps (spOf ec K fl ps.length (C f)) ∧ ∀ vs h, C f vs h ≠ .bad → vs.length = ps.length
  gl : ∀ (i : Nat) (x : Str) (d : D), cf.gls[i]? = some x → G.gls[i]? = some d → (x == ("__debug__" : Str)) = false ∧ ∃ v u, mg x = some u ∧ RelV v u ∧ ∀ r : RC, r.B.K = K → RV r d v
  bi : ∀ x : Str, biN x = true → ixOf cf.fns x = none → ixOf cf.exs x = none → mg x = none
  exc : ∀ (c : Nat) (x : Str), cf.exs[c]? = some x → (x == ("__debug__" : Str)) = false ∧ ∃ a, mg x = some (.ref a) ∧ ec c = .ref a
  mkx : ∀ (X : Cx), X.prog = P → X.w = w → X.K = K → X.mg = mg → X.base = base → X.calm = true → Room k X.A → ∀ (c : Nat) (x : Str) (m : Nat) (p pos : Pos), cf.exs[c]? = some x → cf.ars[c]? = some (some m) → L2.Gl X x → MkOk ec fl X c x m p pos
  ars : ∀ (c m : Nat), cf.ars[c]? = some (some m) → (fl c).length = m
  fls : ∀ (c : Nat) (x : Str), cf.exs[c]? = some x → ∃ ns, G.fls[c]? = some ns ∧ fl c = ns.map (fun n => (⟨n.toArray⟩ : Str)) ∧ ns.Nodup
  fno : ∀ (c : Nat) (x : Str), cf.exs[c]? = some x → ∀ a, ec c = .ref a → ∀ f ∈ fl c, PySem.W.findIn K (.ref a) f = some none
  exl : ∀ (c : Nat), c < G.exb.length → ∃ x, cf.exs[c]? = some x
  flc : ∀ (c : Nat) (x : Str), cf.exs[c]? = some x → G.flc[c]? = some (fl c).length
  exk : ∀ (c : Nat) (x : Str), cf.exs[c]? = some x → (∀ a, ec c = .ref a → ExcC K a) ∧ (∀ (c' : Nat) (x' : Str), cf.exs[c']? = some x' → PySem.W.kitOne K (ec c) (ec c') = some (c == c')) ∧ ∀ (s t : String), (s = "ValueError" ∨ s = "KeyError" ∨ s = "OverflowError") → G.exb[c]? = some t → PySem.W.kitOne K (ec c) (.type s) = some (t == s)
  sys : ∃ o, K.lookup sysModules = some o ∧ o.cls = .type "dict"
  exm : ∀ (c c' : Nat) (x x' : Str), cf.exs[c]? = some x → cf.exs[c']? = some x' → PySem.W.exmOne K (ec c) (ec c') = some (decide (c = c'))
  gd : ∀ (i : Nat) (x : Str), cf.gds[i]? = some x → ∃ p, G.gds[i]? = some p ∧ (x == ("__debug__" : Str)) = false ∧ ∃ a, mg x = some (.ref a) ∧ GdOk K w a p
/-- a place of the program's text: its slots, its scope -/
structure XG (cf : Cf) (G : Gl) (C : Nat → List D → Hs → R D) (ec : EC) (k : Nat) (B : RB) (N : List Str) (sc : Scope) (X : Cx) : Prop where
  eK : X.K = B.K
  nd : N.Nodup
  room : X.A.units + 100 < cLine
  gd : X.A.guards = some []
  eN : X.N = N
  eS : X.env.scope = sc
  nn : ∀ x ∈ N, (x == ("__debug__" : Str)) = false ∧ (x == ("__classdict__" : Str)) = false
  xa : ∀ a c d, B.xa = some (a, c, d) → ∃ oe vs, (a, oe) ∈ X.pn ∧ oe.data = .fields vs ∧ Zc (ec c) d oe ∧ ∃ x, cf.exs[c]? = some x
  calm : cf.calm = true → X.calm = true ∧ Room k X.A ∧ B.xa = none
  wf : WF cf G C ec k X.prog X.w X.K B.fl X.mg X.base
section
variable {cf : Cf} {G : Gl} {C : Nat → List D → Hs → R D} {ec : EC} {k : Nat} {B : RB} {N : List Str} {sc : Scope} {X : Cx}
theorem XG.ok (g : XG cf G C ec k B N sc X) : XOk B k X := ⟨g.eK, by rw [g.eN]; exact g.nd, g.room⟩
def SndE (G : Gl) (C : Nat → List D → Hs → R D) (ec : EC) (B : RB) (X : Cx) (e : Expr) (m : E) : Prop :=
  ∀ ⦃W : WX⦄, Takes X W → ∀ ⦃σ : St⦄ ⦃r : RC⦄ ⦃sl : Sl⦄ ⦃Q : VK⦄, r.B = B → Rep r → RS r sl σ → GV ec r σ Q W (evE G C m sl r.ns) → TM X e σ r.H Q
def evT (G : Gl) (C : Nat → List D → Hs → R D) (m : E) (sl : Sl) (h : Hs) : R Bool := (evE G C m sl h).bind fun x h => R.of (truD h x) h
def SndT (G : Gl) (C : Nat → List D → Hs → R D) (ec : EC) (B : RB) (X : Cx) (e : Expr) (m : E) : Prop :=
  ∀ ⦃W : WX⦄, Takes X W → ∀ ⦃σ : St⦄ ⦃r : RC⦄ ⦃sl : Sl⦄ ⦃Q : Bool → Hp → Prop⦄, r.B = B → Rep r → RS r sl σ → Good ec eqR r σ Q W (evT G C m sl r.ns) → TTM X e σ r.H Q
def SndA (G : Gl) (C : Nat → List D → Hs → R D) (ec : EC) (B : RB) (X : Cx) (es : List Expr) (ms : List E) : Prop :=
  ∀ ⦃W : WX⦄, Takes X W → ∀ ⦃σ : St⦄ ⦃r : RC⦄ ⦃sl : Sl⦄ ⦃Q : List V → Hp → Prop⦄, r.B = B → Rep r → RS r sl σ → Good ec RVs r σ Q W (evEs G C ms sl r.ns) → AM X es σ r.H Q
def SndO (G : Gl) (C : Nat → List D → Hs → R D) (ec : EC) (B : RB) (X : Cx) (e : Option Expr) (m : Option E) : Prop :=
  ∀ ⦃W : WX⦄, Takes X W → ∀ ⦃σ : St⦄ ⦃r : RC⦄ ⦃sl : Sl⦄ ⦃Q : Option Int → Hp → Prop⦄, r.B = B → Rep r → RS r sl σ → Good ec eqR r σ Q W (evO G C m sl r.ns) → OMm X e σ r.H Q
/-- an iterator that yields xs while the sources stand -/
def ItR (r : RC) (xs : List D × Src) (J : It) : Prop := ∀ r1, Ext0 r r1 → Rep r1 → chk xs.2 r1.ns = true → ∀ i : Nat,
  (∀ x, xs.1[i]? = some x → J.go i r1.H ∧ ∀ v H', J.yld i r1.H v H' → ∃ r2, r2.H = H' ∧ Ext r1 r2 ∧ Rep r2 ∧ r2.ns = r1.ns ∧ RV r2 x v) ∧ (xs.1.length ≤ i → J.stop i r1.H)
def SndI (G : Gl) (C : Nat → List D → Hs → R D) (ec : EC) (B : RB) (X : Cx) (tg e : Expr) (m : I) : Prop :=
  ∀ ⦃W : WX⦄, Takes X W → ∀ ⦃σ : St⦄ ⦃r : RC⦄ ⦃sl : Sl⦄ ⦃Q : It → Hp → Prop⦄, r.B = B → Rep r → RS r sl σ → Good ec ItR r σ Q W (evI G C m sl r.ns) → IM X tg e σ r.H Q
theorem ixOf_get : ∀ {l : List Str} {x : Str} {i : Nat}, ixOf l x = some i → l[i]? = some x
  | [], _, _, h => by simp [ixOf] at h
  | y :: l, x, i, h => by
    simp only [ixOf] at h
    split at h
    · rename_i e
      cases h
      simp [e]
    · obtain ⟨j, hj, rfl⟩ := Option.map_eq_some_iff.mp h
      simpa using ixOf_get hj
theorem Good.conv {α β : Type} {rel : RC → α → β → Prop} {r : RC} {σ σ' : St} {Q : β → Hp → Prop} {W W' : WX} {x : R α} (h : Good ec rel r σ Q W x) (hw : ∀ c d H, W c d σ H → W' c d σ' H) : Good ec rel r σ' Q W' x := by
  cases x with
  | ok a h1 => exact h
  | exc c fs h1 => exact fun r' d n e R q => hw _ _ _ (h r' d n e R q)
  | bad => exact h
theorem Good.okI {α β : Type} {rel : RC → α → β → Prop} {r : RC} {σ : St} {Q : β → Hp → Prop} {W : WX} {a : α} {b : β} (R : Rep r) (h : Good ec rel r σ Q W (.ok a r.ns)) (q : rel r a b) : Q b r.H := h r b rfl (Ext.refl r) R q
end
end L2.MP
namespace L2.MP
open PySem PySem.Spec PyProof.Rows
section
variable {cf : Cf} {G : Gl} {C : Nat → List D → Hs → R D} {ec : EC} {k n : Nat} {B : RB} {N : List Str} {sc : Scope} {X : Cx} {e a b c : Expr} {es : List Expr} {m ma mb mc : E} {ms : List E} {pos p2 p : Pos}
theorem of_bind {α β : Type} {o : Option α} {f : α → Option β} {z : β} (h : o.bind f = some z) : ∃ a, o = some a ∧ f a = some z := Option.bind_eq_some_iff.mp h
theorem loc_vis {x : Str} {i : Nat} (h : loc? N sc x = some i) : N[i]? = some x ∧ Vis sc x := by
  unfold loc? at h
  split at h
  · rename_i q; exact ⟨ixOf_get h, .inl q⟩
  · rename_i q; exact ⟨ixOf_get h, .inr (.inl q)⟩
  · rename_i q; exact ⟨ixOf_get h, .inr (.inr q)⟩
  · cases h
theorem glo_gl (g : XG cf G C ec k B N sc X) {x : Str} (h : glo? sc x = true) : L2.Gl X x := by
  unfold glo? at h
  show X.env.scope.names.lookup x = _
  rw [g.eS]
  split at h
  · assumption
  · cases h
theorem snd_cst {cst : Const} {j : Nat} {d : D} (h : cst? cst = some d) : SndE G C ec B X (.Constant cst j pos) (.cst d) := by
  intro W tk σ r sl Q eB R S g
  simp only [evE] at g
  unfold cst? at h
  split at h
  · cases h; exact TM.of pe_non (g.okI R mk_non)
  · cases h; exact TM.of pe_bl (g.okI R (mk_bl _))
  · cases h; exact TM.of pe_int (g.okI R (mk_int _))
  · split at h
    · rename_i s hs
      cases h
      have q := mk_str (r := r) (okB_ok hs)
      obtain ⟨cps⟩ := s
      exact TM.of pe_str (g.okI R q)
    · cases h
  · cases h
theorem snd_var (g0 : XG cf G C ec k B N sc X) {x : Str} {i : Nat} (h : loc? N sc x = some i) : SndE G C ec B X (.Name x pos) (.var i) := by
  intro W tk σ r sl Q eB R S g
  obtain ⟨h1, h2⟩ := loc_vis h
  obtain ⟨d1, d2⟩ := g0.nn x (List.mem_of_getElem? h1)
  refine TM.of (pe_var (i := i) (by rw [g0.eN]; exact h1) (by rw [g0.eS]; exact h2) d1 d2) ?_
  simp only [evE] at g
  split at g
  · rename_i d hd
    obtain ⟨v, e1, e2⟩ := S.2 i d hd
    exact ⟨v, e1, g.okI R e2⟩
  · exact False.elim g
theorem snd_glb (g0 : XG cf G C ec k B N sc X) {x : Str} {i : Nat} (hg : glo? sc x = true) (h : ixOf cf.gls x = some i) : SndE G C ec B X (.Name x pos) (.glb i) := by
  intro W tk σ r sl Q eB R S g
  simp only [evE] at g
  cases e : G.gls[i]? with
  | none => rw [e] at g; exact False.elim g
  | some d =>
    rw [e] at g
    obtain ⟨hd, v, u, h1, h2, h3⟩ := g0.wf.gl i x d (ixOf_get h) e
    exact TM.of (pe_glob (glo_gl g0 hg) h1 h2 hd) (g.okI R (h3 r (by rw [eB, g0.eK])))
theorem snd_bin (g0 : XG cf G C ec k B N sc X) {op : Operator} (ha : SndE G C ec B X a ma) (hb : SndE G C ec B X b mb) : SndE G C ec B X (.BinOp a op b pos) (.bin op ma mb) := by
  intro W tk σ r sl Q eB R S g
  simp only [evE] at g
  refine TM.bin (ha tk eB R S (g.step fun x h1 r1 v1 _ n1 e1 R1 q1 g1 => ?_))
  subst n1
  refine hb tk (e1.B.trans eB) R1 (S.ext R e1) (g1.step fun y h2 r2 v2 _ n2 e2 R2 q2 g2 => ?_)
  subst n2
  exact bin_ok (g0.ok) (e2.B.trans (e1.B.trans eB)) R2 (RV.ext R1 e2 q1) q2 g2
theorem binN_ok (ok : XOk B k X) {r : RC} {x y : D} {v1 v2 : V} {op : Operator} {σ σ' : St} {Q : VK} {W : WX} (eB : r.B = B) (R : Rep r) (h1 : RV r x v1) (h2 : RV r y v2) (g : GV ec r σ Q W (binN op x y r.ns)) : OM X (binaryOp op) σ' v1 v2 r.H Q := by
  have eK : X.K = r.B.K := by rw [ok.K, eB]
  unfold binN at g
  split at g
  · obtain ⟨s, hs, g⟩ := Good.of g
    obtain ⟨t, ht, g⟩ := Good.of g
    obtain ⟨hz, g⟩ := Good.ite g
    obtain ⟨a, vs, rfl, p1, q1⟩ := lstV_inv R hs h1
    obtain ⟨b, ws, rfl, p2, q2⟩ := lstV_inv R ht h2
    exact OM.of op_cat ⟨a, b, vs, ws, rfl, rfl, p1, p2, by rw [← q1.length, ← q2.length]; exact le_line hz, fun p hp => mk_lstOf R (q1.append q2) g hp⟩
  · obtain ⟨s, hs, g⟩ := Good.of g
    obtain ⟨hz, g⟩ := Good.ite g
    obtain ⟨a, vs, rfl, p1, q1⟩ := lstV_inv R hs h1
    rw [rv_int h2]
    have qr : ∀ n, RVs r (List.replicate n s).flatten (List.replicate n vs).flatten := fun n => by
      induction n with
      | zero => exact RVs.nil
      | succ n ih => rw [List.replicate_succ, List.replicate_succ, List.flatten_cons, List.flatten_cons]; exact q1.append ih
    exact OM.of op_rep ⟨a, _, vs, rfl, rfl, p1, by omega, by omega, by rw [← q1.length]; exact le_line hz.2.2, fun p hp => mk_lstOf R (qr _) g hp⟩
  · exact False.elim g
theorem snd_binN (g0 : XG cf G C ec k B N sc X) {op : Operator} (ha : SndE G C ec B X a ma) (hb : SndE G C ec B X b mb) : SndE G C ec B X (.BinOp a op b pos) (.binN op ma mb) := by
  intro W tk σ r sl Q eB R S g
  simp only [evE] at g
  refine TM.bin (ha tk eB R S (g.step fun x h1 r1 v1 _ n1 e1 R1 q1 g1 => ?_))
  subst n1
  refine hb tk (e1.B.trans eB) R1 (S.ext R e1) (g1.step fun y h2 r2 v2 _ n2 e2 R2 q2 g2 => ?_)
  subst n2
  exact binN_ok (g0.ok) (e2.B.trans (e1.B.trans eB)) R2 (RV.ext R1 e2 q1) q2 g2
theorem snd_cmp (g0 : XG cf G C ec k B N sc X) {op : CmpOp} (hm : behindInMarks op b = false) (ha : SndE G C ec B X a ma) (hb : SndE G C ec B X b mb) : SndE G C ec B X (.Compare a [op] [b] pos) (.cmp op ma mb) := by
  intro W tk σ r sl Q eB R S g
  simp only [evE] at g
  refine TM.cmp hm (ha tk eB R S (g.step fun x h1 r1 v1 _ n1 e1 R1 q1 g1 => ?_))
  subst n1
  refine hb tk (e1.B.trans eB) R1 (S.ext R e1) (g1.step fun y h2 r2 v2 _ n2 e2 R2 q2 g2 => ?_)
  subst n2
  obtain ⟨t, ht, g2⟩ := Good.of g2
  exact cmp_ok (g0.ok) (e2.B.trans (e1.B.trans eB)) R2 (RV.ext R1 e2 q1) q2 ht (g2.okI R2 (mk_bl _))
/-- the comparison's reading, at every slots -/
def rAl (X : Cx) (op : CmpOp) : R2 := fun x y H Q => ∀ σ, OM X (compareOp op) σ x y H Q
theorem op_al {op : CmpOp} : OpR X (compareOp op) (rAl X op) := fun pins s σ H x y v u Q I rx ry h => h σ pins s v u I rx ry
theorem chn_tm (g0 : XG cf G C ec k B N sc X) {op op2 : CmpOp} (ha : SndE G C ec B X a ma) (hb : SndE G C ec B X b mb) (hc : SndE G C ec B X c mc) {W : WX} (tk : Takes X W) {σ : St} {r : RC} {sl : Sl} {Q : VK} (eB : r.B = B) (R : Rep r) (S : RS r sl σ)
    (g : GV ec r σ Q W (evE G C (.chn op op2 ma mb mc) sl r.ns)) : tChain (rAl X op) (rAl X op2) (TM X a) (TM X b) (TM X c) σ r.H Q := by
  simp only [evE] at g
  refine ha tk eB R S (g.step fun x h1 r1 v1 _ n1 e1 R1 q1 g1 => ?_)
  subst n1
  refine hb tk (e1.B.trans eB) R1 (S.ext R e1) (g1.step fun y h2 r2 v2 _ n2 e2 R2 q2 g2 => ?_)
  subst n2
  obtain ⟨t, ht, g2⟩ := Good.of g2
  intro σ2
  have eB2 := e2.B.trans (e1.B.trans eB)
  refine cmp_ok (g0.ok) eB2 R2 (RV.ext R1 e2 q1) q2 ht ⟨t, rfl, ?_⟩
  cases t with
  | false => exact g2.okI R2 (mk_bl _)
  | true =>
    refine hc tk eB2 R2 ((S.ext R e1).ext R1 e2) (g2.step fun z h3 r3 v3 _ n3 e3 R3 q3 g3 => ?_)
    subst n3
    obtain ⟨t, ht, g3⟩ := Good.of g3
    intro σ3
    exact cmp_ok (g0.ok) (e3.B.trans eB2) R3 (RV.ext R2 e3 q2) q3 ht (g3.okI R3 (mk_bl _))
theorem snd_chn (g0 : XG cf G C ec k B N sc X) {op op2 : CmpOp} (hm : lastMarks [op, op2] [b, c] = false) (ha : SndE G C ec B X a ma) (hb : SndE G C ec B X b mb) (hc : SndE G C ec B X c mc) : SndE G C ec B X (.Compare a [op, op2] [b, c] pos) (.chn op op2 ma mb mc) := by
  intro W tk σ r sl Q eB R S g
  exact TM.of (pe_chain op_al op_al pe_tm pe_tm pe_tm hm) (chn_tm g0 ha hb hc tk eB R S g)
theorem snd_neg (ha : SndE G C ec B X a ma) : SndE G C ec B X (.UnaryOp .USub a pos) (.neg ma) := by
  intro W tk σ r sl Q eB R S g
  simp only [evE] at g
  refine TM.of (pe_un un_neg pe_tm) (ha tk eB R S (g.step fun x h1 r1 v1 _ n1 e1 R1 q1 g1 => ?_))
  subst n1
  split at g1
  · rw [rv_int q1]
    exact ⟨_, rfl, g1.okI R1 (mk_int _)⟩
  · exact False.elim g1
theorem snd_not (g0 : XG cf G C ec k B N sc X) (ha : SndE G C ec B X a ma) : SndE G C ec B X (.UnaryOp .Not a pos) (.not ma) := by
  intro W tk σ r sl Q eB R S g
  simp only [evE] at g
  refine TM.of (pe_notT pe_tm) (ha tk eB R S (g.step fun x h1 r1 v1 _ n1 e1 R1 q1 g1 => ?_))
  subst n1
  obtain ⟨t, ht, g1⟩ := Good.of g1
  exact ⟨t, by rw [g0.eK, ← eB, ← e1.B]; exact truD_ok R1 ht q1, g1.okI R1 (mk_bl _)⟩
theorem snd_and (g0 : XG cf G C ec k B N sc X) (ha : SndE G C ec B X a ma) (hb : SndE G C ec B X (.BoolOp .And (b :: es) pos) mb) : SndE G C ec B X (.BoolOp .And (a :: b :: es) pos) (.and ma mb) := by
  intro W tk σ r sl Q eB R S g
  simp only [evE] at g
  refine TM.of (pe_andT pe_tm pe_tm) (ha tk eB R S (g.step fun x h1 r1 v1 _ n1 e1 R1 q1 g1 => ?_))
  subst n1
  obtain ⟨t, ht, g1⟩ := Good.of g1
  refine ⟨t, by rw [g0.eK, ← eB, ← e1.B]; exact truD_ok R1 ht q1, ?_⟩
  cases t with
  | true => exact hb tk (e1.B.trans eB) R1 (S.ext R e1) g1
  | false => exact g1.okI R1 q1
theorem snd_or (g0 : XG cf G C ec k B N sc X) (ha : SndE G C ec B X a ma) (hb : SndE G C ec B X (.BoolOp .Or (b :: es) pos) mb) : SndE G C ec B X (.BoolOp .Or (a :: b :: es) pos) (.or ma mb) := by
  intro W tk σ r sl Q eB R S g
  simp only [evE] at g
  refine TM.of (pe_orT pe_tm pe_tm) (ha tk eB R S (g.step fun x h1 r1 v1 _ n1 e1 R1 q1 g1 => ?_))
  subst n1
  obtain ⟨t, ht, g1⟩ := Good.of g1
  refine ⟨t, by rw [g0.eK, ← eB, ← e1.B]; exact truD_ok R1 ht q1, ?_⟩
  cases t with
  | true => exact g1.okI R1 q1
  | false => exact hb tk (e1.B.trans eB) R1 (S.ext R e1) g1
theorem snd_one {op : BoolOp} (ha : SndE G C ec B X a ma) : SndE G C ec B X (.BoolOp op [a] pos) ma := by
  intro W tk σ r sl Q eB R S g
  exact TM.of (pe_one pe_tm) (ha tk eB R S g)
theorem snd_ifx (ht : SndT G C ec B X c mc) (ha : SndE G C ec B X a ma) (hb : SndE G C ec B X b mb) : SndE G C ec B X (.IfExp c a b pos) (.ifx mc ma mb) := by
  intro W tk σ r sl Q eB R S g
  refine TM.of (pe_ifExp pt_ttm pe_tm pe_tm) (ht tk eB R S (Good.step (rel2 := RV) (Q2 := Q) (f := fun t h => if t then evE G C ma sl h else evE G C mb sl h) ?_ fun t h1 r1 v1 _ n1 e1 R1 q1 g1 => ?_))
  · simp only [evE] at g
    unfold evT
    cases e : evE G C mc sl r.ns with
    | ok x h1 =>
      rw [e] at g
      simp only [MP.R.bind] at g ⊢
      exact g
    | exc c fs h1 => rw [e] at g; exact g
    | bad => rw [e] at g; exact g
  · subst n1
    cases q1
    cases t with
    | true => exact ha tk (e1.B.trans eB) R1 (S.ext R e1) g1
    | false => exact hb tk (e1.B.trans eB) R1 (S.ext R e1) g1
theorem evEs_len : ∀ {ms : List E} {sl : Sl} {h h' : Hs} {vs : List D}, evEs G C ms sl h = .ok vs h' → vs.length = ms.length
  | [], sl, h, h', vs, e => by simp only [evEs, R.ok.injEq] at e; rw [← e.1]; rfl
  | m :: ms, sl, h, h', vs, e => by
    simp only [evEs] at e
    cases e1 : evE G C m sl h with
    | ok x h1 =>
      rw [e1] at e
      simp only [R.bind] at e
      cases e2 : evEs G C ms sl h1 with
      | ok xs h2 =>
        rw [e2] at e
        simp only [R.ok.injEq] at e
        rw [← e.1]
        simp [evEs_len e2]
      | exc c fs h2 => rw [e2] at e; cases e
      | bad => rw [e2] at e; cases e
    | exc c fs h2 => rw [e1] at e; cases e
    | bad => rw [e1] at e; cases e
theorem snd_tup {k1 : Nat} (hl : ms.length ≤ 1000) (ha : SndA G C ec B X es ms) : SndE G C ec B X (.Tuple es k1 pos) (.tup ms) := by
  intro W tk σ r sl Q eB R S g
  simp only [evE] at g
  refine TM.of (pe_tup pa_am) (ha tk eB R S (g.step fun xs h1 r1 vs ev n1 e1 R1 q1 g1 => ?_))
  subst n1
  refine ⟨?_, fun p hp => ?_⟩
  · rw [← q1.length, evEs_len ev]
    exact Nat.le_trans hl (by decide)
  · obtain ⟨e, R', q⟩ := new_tup R1 hp q1
    exact g1 { r1 with H := upd r1.H p (.tup vs) } (.ref p) rfl e R' q
theorem snd_lst {nd : Bool} (hl : ms.length ≤ 1000) (ha : SndA G C ec B X es ms) : SndE G C ec B X (.List es pos) (.lst ms nd) := by
  intro W tk σ r sl Q eB R S g
  simp only [evE] at g
  refine TM.of (pe_lst pa_am) (ha tk eB R S (g.step fun xs h1 r1 vs ev n1 e1 R1 q1 g1 => ?_))
  subst n1
  refine ⟨?_, fun p hp => mk_lstOf R1 q1 g1 hp⟩
  rw [← q1.length, evEs_len ev]
  exact Nat.le_trans hl (by decide)
theorem snd_emp : SndE G C ec B X (.Dict [] [] pos) .emp := by
  intro W tk σ r sl Q eB R S g
  simp only [evE] at g
  refine TM.of pe_dnewK fun p hp => ?_
  obtain ⟨e, R'⟩ := R.alloc (o := .dK []) hp
  refine g { r with H := upd r.H p (.dK []) } (.ref p) rfl e R' ?_
  simp only [RV]
  refine ⟨p, rfl, upd_same, ?_, trivial, trivial⟩
  rintro (⟨i, ys, q, z⟩ | q)
  · obtain ⟨ws, h1⟩ := (R.nod i _ q).at
    have z' : r.loc i = p := z
    rw [z', hp] at h1; cases h1
  · obtain ⟨ws, h1, _⟩ := R.pvs p q
    rw [hp] at h1; cases h1
theorem snd_dctT : SndE G C ec B X (.Dict [] [] pos) .dctT := by
  intro W tk σ r sl Q eB R S g
  simp only [evE] at g
  refine TM.of pe_dnewT fun p hp => ?_
  obtain ⟨e, R', q⟩ := R.nodeN (nd0 := .dic true [] []) (o := .dT []) hp ⟨[], rfl, rfl, (fun _ h => nomatch h), RVs.nil⟩
  exact g (r.growN p (.dT []) (.dic true [] [])) (.ref p) rfl e R' q
theorem snd_kup {k1 : Nat} (hl : ms.length ≤ 1000) (ha : SndA G C ec B X es ms) : SndE G C ec B X (.Tuple es k1 pos) (.kup ms) := by
  intro W tk σ r sl Q eB R S g
  simp only [evE] at g
  refine TM.of (pe_tup pa_am) (ha tk eB R S (g.step fun xs h1 r1 vs ev n1 e1 R1 q1 g1 => ?_))
  subst n1
  by_cases hk : xs.all keyOk = true
  · rw [if_pos hk] at g1
    refine ⟨?_, fun p hp => ?_⟩
    · rw [← q1.length, evEs_len ev]
      exact Nat.le_trans hl (by decide)
    · obtain ⟨e, R', q⟩ := new_kup R1 hp q1 hk
      exact g1 { r1 with H := upd r1.H p (.tup vs) } (.ref p) rfl e R' q
  · rw [if_neg hk] at g1
    exact False.elim g1
theorem snd_ix (g0 : XG cf G C ec k B N sc X) (hp : PlainIx b) (ha : SndE G C ec B X a ma) (hb : SndE G C ec B X b mb) : SndE G C ec B X (.Subscript a b pos) (.ix ma mb) := by
  intro W tk σ r sl Q eB R S g
  simp only [evE] at g
  refine TM.of (pe_ix (ix_all (by have := g0.room; omega)) pe_tm pe_tm hp) (ha tk eB R S (g.step fun x h1 r1 v1 _ n1 e1 R1 q1 g1 => ?_))
  subst n1
  refine hb tk (e1.B.trans eB) R1 (S.ext R e1) (g1.step fun y h2 r2 v2 _ n2 e2 R2 q2 g2 => ?_)
  subst n2
  cases e : ixD r2.ns x y with
  | none => rw [e] at g2; exact False.elim g2
  | some d =>
    rw [e] at g2
    exact ix_ok (g0.ok) (e2.B.trans (e1.B.trans eB)) R2 (RV.ext R1 e2 q1) q2 e fun v r' e' n' R' q' => g2 r' v n' e' R' q'
theorem snd_o_none : SndO G C ec B X none none := by
  intro W tk σ r sl Q eB R S g
  simp only [evO] at g
  exact OMm.of po_none (g.okI R rfl)
theorem snd_o_some (ha : SndE G C ec B X a ma) : SndO G C ec B X (some a) (some ma) := by
  intro W tk σ r sl Q eB R S g
  simp only [evO] at g
  refine OMm.of (po_some pe_tm) (ha tk eB R S (g.step fun x h1 r1 v1 _ n1 e1 R1 q1 g1 => ?_))
  subst n1
  split at g1
  · exact ⟨_, rv_int q1, g1.okI R1 rfl⟩
  · exact False.elim g1
theorem snd_sl (g0 : XG cf G C ec k B N sc X) {lo hi : Option Expr} {ml mh : Option E} (ha : SndE G C ec B X a ma) (hl : SndO G C ec B X lo ml) (hh : SndO G C ec B X hi mh) : SndE G C ec B X (.Subscript a (.Slice lo hi none p2) pos) (.sl ma ml mh) := by
  intro W tk σ r sl Q eB R S g
  simp only [evE] at g
  refine TM.of (pe_slice sl_3 pe_tm po_om po_om) (ha tk eB R S (g.step fun x h1 r1 v1 _ n1 e1 R1 q1 g1 => ?_))
  subst n1
  refine hl tk (e1.B.trans eB) R1 (S.ext R e1) (g1.step fun y h2 r2 v2 _ n2 e2 R2 q2 g2 => ?_)
  subst n2
  cases q2
  refine hh tk (e2.B.trans (e1.B.trans eB)) R2 ((S.ext R e1).ext R1 e2) (g2.step fun z h3 r3 v3 _ n3 e3 R3 q3 g3 => ?_)
  subst n3
  cases q3
  cases e : slD r3.ns x y z with
  | none => rw [e] at g3; exact False.elim g3
  | some d =>
    rw [e] at g3
    exact sl_ok (g0.ok) (e3.B.trans (e2.B.trans (e1.B.trans eB))) R3 (RV.ext R2 e3 (RV.ext R1 e2 q1)) e g3
theorem snd_a_nil : SndA G C ec B X [] [] := by
  intro W tk σ r sl Q eB R S g
  simp only [evEs] at g
  exact AM.of pa_nil (g.okI R RVs.nil)
theorem snd_a_cons (hs : starEach (e :: es) X.env = (false, eval e X.env) :: starEach es X.env) (ha : SndE G C ec B X e m) (hb : SndA G C ec B X es ms) : SndA G C ec B X (e :: es) (m :: ms) := by
  intro W tk σ r sl Q eB R S g
  simp only [evEs] at g
  refine AM.of (pa_cons pe_tm pa_am hs) (ha tk eB R S (g.step fun x h1 r1 v1 _ n1 e1 R1 q1 g1 => ?_))
  subst n1
  refine hb tk (e1.B.trans eB) R1 (S.ext R e1) (g1.step fun y h2 r2 v2 _ n2 e2 R2 q2 g2 => ?_)
  subst n2
  exact g2.okI R2 (RVs.cons (RV.ext R1 e2 q1) q2)
end
end L2.MP
namespace L2.MP
open PySem PySem.Spec PyProof.Rows
section
variable {cf : Cf} {G : Gl} {C : Nat → List D → Hs → R D} {ec : EC} {k n : Nat} {B : RB} {N : List Str} {sc : Scope} {X : Cx} {e a b c : Expr} {es : List Expr} {m ma mb mc : E} {ms : List E} {pos p2 p : Pos}
theorem Rbind_assoc {α β γ : Type} (x : R α) (f : α → Hs → R β) (g : β → Hs → R γ) : (x.bind f).bind g = x.bind fun a h => (f a h).bind g := by
  cases x <;> rfl
theorem evT_and (ma mb : E) (sl : Sl) (h : Hs) : evT G C (.and ma mb) sl h = (evT G C ma sl h).bind fun t h => if t then evT G C mb sl h else .ok false h := by
  unfold evT
  simp only [evE]
  cases evE G C ma sl h with
  | ok x h1 =>
    show ((MP.R.of (truD h1 x) h1).bind _).bind _ = (MP.R.of (truD h1 x) h1).bind _
    cases e : truD h1 x with
    | none => rfl
    | some t =>
      cases t with
      | true => rfl
      | false =>
        show MP.R.of (truD h1 x) h1 = _
        rw [e]; rfl
  | exc c fs h1 => rfl
  | bad => rfl
theorem evT_or (ma mb : E) (sl : Sl) (h : Hs) : evT G C (.or ma mb) sl h = (evT G C ma sl h).bind fun t h => if t then .ok true h else evT G C mb sl h := by
  unfold evT
  simp only [evE]
  cases evE G C ma sl h with
  | ok x h1 =>
    show ((MP.R.of (truD h1 x) h1).bind _).bind _ = (MP.R.of (truD h1 x) h1).bind _
    cases e : truD h1 x with
    | none => rfl
    | some t =>
      cases t with
      | false => rfl
      | true =>
        show MP.R.of (truD h1 x) h1 = _
        rw [e]; rfl
  | exc c fs h1 => rfl
  | bad => rfl
theorem evT_not (ma : E) (sl : Sl) (h : Hs) : evT G C (.not ma) sl h = (evT G C ma sl h).bind fun t h => .ok (!t) h := by
  unfold evT
  simp only [evE]
  cases evE G C ma sl h with
  | ok x h1 =>
    show ((MP.R.of (truD h1 x) h1).bind _).bind _ = (MP.R.of (truD h1 x) h1).bind _
    cases e : truD h1 x with
    | none => rfl
    | some t => rfl
  | exc c fs h1 => rfl
  | bad => rfl
theorem evT_ifx (mc ma mb : E) (sl : Sl) (h : Hs) : evT G C (.ifx mc ma mb) sl h = (evT G C mc sl h).bind fun t h => if t then evT G C ma sl h else evT G C mb sl h := by
  unfold evT
  simp only [evE]
  cases evE G C mc sl h with
  | ok x h1 =>
    show ((MP.R.of (truD h1 x) h1).bind _).bind _ = (MP.R.of (truD h1 x) h1).bind _
    cases e : truD h1 x with
    | none => rfl
    | some t => cases t <;> rfl
  | exc c fs h1 => rfl
  | bad => rfl
theorem snt_plain (g0 : XG cf G C ec k B N sc X) (he : ∀ whole, PySem.isTrue a X.env whole = (do let v ← whole; standAt a.pos; holding [v] (truthy v))) (ha : SndE G C ec B X a ma) : SndT G C ec B X a ma := by
  intro W tk σ r sl Q eB R S g
  unfold evT at g
  refine TTM.of (pt_truth pe_tm he) (ha tk eB R S (g.step fun x h1 r1 v1 _ n1 e1 R1 q1 g1 => ?_))
  subst n1
  cases ht : truD r1.ns x with
  | none => rw [ht] at g1; exact False.elim g1
  | some t =>
    rw [ht] at g1
    exact ⟨t, by rw [g0.eK, ← eB, ← e1.B]; exact truD_ok R1 ht q1, g1.okI R1 rfl⟩
theorem snt_not (ha : SndT G C ec B X a ma) : SndT G C ec B X (.UnaryOp .Not a pos) (.not ma) := by
  intro W tk σ r sl Q eB R S g
  rw [evT_not] at g
  refine TTM.of (pt_not pt_ttm) (ha tk eB R S (g.step fun x h1 r1 v1 _ n1 e1 R1 q1 g1 => ?_))
  subst n1
  cases q1
  exact g1.okI R1 rfl
theorem snt_cmp (g0 : XG cf G C ec k B N sc X) {op : CmpOp} (hm : behindInMarks op b = false) (ha : SndE G C ec B X a ma) (hb : SndE G C ec B X b mb) : SndT G C ec B X (.Compare a [op] [b] pos) (.cmp op ma mb) := by
  intro W tk σ r sl Q eB R S g
  have g : Good ec eqR r σ Q W ((evE G C ma sl r.ns).bind fun x h => (evE G C mb sl h).bind fun y h => (MP.R.of (cmpD h op x y) h).bind fun b h => MP.R.of (truD h (.bl b)) h) := by
    unfold evT at g
    simp only [evE, Rbind_assoc] at g
    exact g
  refine TTM.of (pt_cmpR op_al pe_tm pe_tm hm) (ha tk eB R S (g.step fun x h1 r1 v1 _ n1 e1 R1 q1 g1 => ?_))
  subst n1
  refine hb tk (e1.B.trans eB) R1 (S.ext R e1) (g1.step fun y h2 r2 v2 _ n2 e2 R2 q2 g2 => ?_)
  subst n2
  obtain ⟨t, ht, g2⟩ := Good.of g2
  intro σ2
  exact cmp_ok (g0.ok) (e2.B.trans (e1.B.trans eB)) R2 (RV.ext R1 e2 q1) q2 ht ⟨t, rfl, g2.okI R2 rfl⟩
theorem snt_chn (g0 : XG cf G C ec k B N sc X) {op op2 : CmpOp} (hm : lastMarks [op, op2] [b, c] = false) (ha : SndE G C ec B X a ma) (hb : SndE G C ec B X b mb) (hc : SndE G C ec B X c mc) : SndT G C ec B X (.Compare a [op, op2] [b, c] pos) (.chn op op2 ma mb mc) := by
  intro W tk σ r sl Q eB R S g
  refine TTM.of (pt_chain op_al op_al pe_tm pe_tm pe_tm hm) (chn_tm g0 ha hb hc tk eB R S (W := W) ?_)
  unfold evT at g
  have key : ∀ x : MP.R D, (∀ d h, x = .ok d h → ∃ t, d = .bl t) → Good ec eqR r σ Q W (x.bind fun x h => MP.R.of (truD h x) h) → GV ec r σ (fun x H' => ∃ k, x = .bl k ∧ Q k H') W x := fun x hx g => by
    cases x with
    | ok d h =>
      obtain ⟨t, rfl⟩ := hx d h rfl
      exact fun r' v n e R' q => ⟨t, rv_bl q, g r' t n e R' rfl⟩
    | exc c fs h => exact g
    | bad => exact g
  refine key _ (fun d h e => ?_) g
  simp only [evE] at e
  cases e1 : evE G C ma sl r.ns with
  | ok x h1 =>
    rw [e1] at e
    simp only [MP.R.bind] at e
    cases e2 : evE G C mb sl h1 with
    | ok y h2 =>
      rw [e2] at e
      simp only at e
      cases e3 : cmpD h2 op x y with
      | none => rw [e3] at e; cases e
      | some t =>
        rw [e3] at e
        cases t with
        | false => cases e; exact ⟨_, rfl⟩
        | true =>
          simp only [MP.R.of, if_true] at e
          cases e4 : evE G C mc sl h2 with
          | ok z h3 =>
            rw [e4] at e
            simp only at e
            cases e5 : cmpD h3 op2 y z with
            | none => rw [e5] at e; cases e
            | some t => rw [e5] at e; cases e; exact ⟨_, rfl⟩
          | exc c fs h3 => rw [e4] at e; cases e
          | bad => rw [e4] at e; cases e
    | exc c fs h2 => rw [e2] at e; cases e
    | bad => rw [e2] at e; cases e
  | exc c fs h1 => rw [e1] at e; cases e
  | bad => rw [e1] at e; cases e
theorem snt_ifx (ht : SndT G C ec B X c mc) (ha : SndT G C ec B X a ma) (hb : SndT G C ec B X b mb) : SndT G C ec B X (.IfExp c a b pos) (.ifx mc ma mb) := by
  intro W tk σ r sl Q eB R S g pins s I
  rw [evT_ifx] at g
  show wpAny _ _ (PySem.isTrue c X.env (eval c X.env) >>= fun t => if t = true then PySem.isTrue a X.env (eval a X.env) else PySem.isTrue b X.env (eval b X.env)) _ _ _
  have hq : TTM X c σ r.H fun t H => if t = true then TTM X a σ H Q else TTM X b σ H Q := ht tk eB R S (g.step fun t h1 r1 v1 _ n1 e1 R1 q1 g1 => by
    subst n1
    cases q1
    cases t with
    | true => exact ha tk (e1.B.trans eB) R1 (S.ext R e1) g1
    | false => exact hb tk (e1.B.trans eB) R1 (S.ext R e1) g1)
  refine wpAny_bind (thn (hq pins s I) fun t s1 ⟨H1, I1, q1⟩ => ?_)
  · cases t with
    | true => exact q1 pins s1 I1
    | false => exact q1 pins s1 I1
/-- as a test, whatever was evaluated -/
def SndW (G : Gl) (C : Nat → List D → Hs → R D) (ec : EC) (B : RB) (X : Cx) (e : Expr) (m : E) : Prop :=
  ∀ ⦃W : WX⦄, Takes X W → ∀ ⦃σ : St⦄ ⦃r : RC⦄ ⦃sl : Sl⦄ ⦃Q : Bool → Hp → Prop⦄, r.B = B → Rep r → RS r sl σ → Good ec eqR r σ Q W (evT G C m sl r.ns) →
    ∀ (wh : Sem Value) (pins : List (Addr × Obj)) (s : Shared), Inv X pins σ r.H s → wpAny (model X.prog X.w) X.A (PySem.isTrue e X.env wh) (TP X pins σ Q) X.xe s
def WM (X : Cx) (e : Expr) : TT := fun σ H Q => ∀ (wh : Sem Value) (pins : List (Addr × Obj)) (s : Shared), Inv X pins σ H s → wpAny (model X.prog X.w) X.A (PySem.isTrue e X.env wh) (TP X pins σ Q) X.xe s
theorem pw_wm {X : Cx} {e : Expr} : PW X e (WM X e) := ⟨fun wh pins s _ _ _ I h => h wh pins s I⟩
theorem SndW.t (h : SndW G C ec B X e m) : SndT G C ec B X e m := by
  intro W tk σ r sl Q eB R S g pins s I
  exact h tk eB R S g _ pins s I
theorem snw_one {op : BoolOp} (ha : SndT G C ec B X a ma) : SndW G C ec B X (.BoolOp op [a] pos) ma := by
  intro W tk σ r sl Q eB R S g wh pins s I
  cases op with
  | And => exact (pw_and1 pt_ttm).run wh pins s σ r.H Q I (ha tk eB R S g)
  | Or => exact (pw_or1 pt_ttm).run wh pins s σ r.H Q I (ha tk eB R S g)
theorem snw_and (ha : SndT G C ec B X a ma) (hb : SndW G C ec B X (.BoolOp .And (b :: es) pos) mb) : SndW G C ec B X (.BoolOp .And (a :: b :: es) pos) (.and ma mb) := by
  intro W tk σ r sl Q eB R S g wh pins s I
  rw [evT_and] at g
  refine (pw_and pt_ttm pw_wm).run wh pins s σ r.H Q I (ha tk eB R S (g.step fun t h1 r1 v1 _ n1 e1 R1 q1 g1 => ?_))
  subst n1
  cases q1
  cases t with
  | true => exact hb tk (e1.B.trans eB) R1 (S.ext R e1) g1
  | false => exact g1.okI R1 rfl
theorem snw_or (ha : SndT G C ec B X a ma) (hb : SndW G C ec B X (.BoolOp .Or (b :: es) pos) mb) : SndW G C ec B X (.BoolOp .Or (a :: b :: es) pos) (.or ma mb) := by
  intro W tk σ r sl Q eB R S g wh pins s I
  rw [evT_or] at g
  refine (pw_or pt_ttm pw_wm).run wh pins s σ r.H Q I (ha tk eB R S (g.step fun t h1 r1 v1 _ n1 e1 R1 q1 g1 => ?_))
  subst n1
  cases q1
  cases t with
  | true => exact g1.okI R1 rfl
  | false => exact hb tk (e1.B.trans eB) R1 (S.ext R e1) g1
end
end L2.MP
namespace L2.MP
open PySem PySem.Spec PyProof.Rows
mutual
def refOk (n : Nat) : D → Prop
  | .ref i => i < n
  | .tup xs => refOks n xs
  | .lst xs => refOks n xs
  | .exn _ fs => refOks n fs
  | _ => True
def refOks (n : Nat) : List D → Prop
  | [] => True
  | x :: xs => refOk n x ∧ refOks n xs
end
mutual
theorem RV.refOk {r : RC} : ∀ {d : D} {v : V}, RV r d v → refOk r.ns.length d
  | .non, _, _ => by simp only [MP.refOk]
  | .bl _, _, _ => by simp only [MP.refOk]
  | .int _, _, _ => by simp only [MP.refOk]
  | .str _, _, _ => by simp only [MP.refOk]
  | .ref i, _, h => by
    simp only [RV] at h
    simp only [MP.refOk]; exact h.1
  | .tup xs, _, h => by
    simp only [RV] at h
    obtain ⟨a, vs, rfl, _, h2⟩ := h
    simp only [MP.refOk]; exact RVs.refOks h2
  | .lst xs, _, h => by
    simp only [RV] at h
    obtain ⟨a, vs, rfl, _, _, h2⟩ := h
    simp only [MP.refOk]; exact RVs.refOks h2
  | .exn c fs, _, h => by
    simp only [RV] at h
    obtain ⟨a, d, rfl, _, h2⟩ := h
    simp only [MP.refOk]
    rcases h2 with ⟨_, rfl⟩ | ⟨dx, vs, rfl, _, _, _, h5⟩
    · simp only [MP.refOks]
    · exact RVs.refOks h5
  | .dic _ _, _, _ => by simp only [MP.refOk]
  | .scr _, _, _ => by simp only [MP.refOk]
  | .kup _, _, _ => by simp only [MP.refOk]
theorem RVs.refOks {r : RC} : ∀ {xs : List D} {vs : List V}, RVs r xs vs → refOks r.ns.length xs
  | [], _, _ => by simp only [MP.refOks]
  | x :: xs, _, h => by
    obtain ⟨v, ws, rfl, h1, h2⟩ := RVs.inv h
    simp only [MP.refOks]
    exact ⟨RV.refOk h1, RVs.refOks h2⟩
end
/-- r2: r with fewer nodes -/
structure Sub (n : Nat) (r r2 : RC) : Prop where
  B : r2.B = r.B
  H : r2.H = r.H
  w : ∀ a, r2.W a → r.W a
  loc : ∀ j, j < n → r2.loc j = r.loc j
  len : n ≤ r2.ns.length
section
variable {n : Nat} {r r2 : RC}
theorem SqW.sub (s : Sub n r r2) {a : Addr} {vs : List V} (h : SqW r a vs) : SqW r2 a vs := by
  rcases h with ⟨h, w⟩ | h
  · exact .inl ⟨by rw [s.H]; exact h, fun z => w (s.w a z)⟩
  · exact .inr (by rw [s.B]; exact h)
mutual
theorem RV.sub (s : Sub n r r2) : ∀ {d : D} {v : V}, refOk n d → RV r d v → RV r2 d v
  | .non, _, _, h => by simpa only [RV] using h
  | .bl _, _, _, h => by simpa only [RV] using h
  | .int _, _, _, h => by simpa only [RV] using h
  | .str _, _, _, h => by simpa only [RV] using h
  | .ref i, _, k, h => by
    simp only [MP.refOk] at k
    simp only [RV] at h ⊢
    exact ⟨Nat.lt_of_lt_of_le k s.len, by rw [h.2, s.loc i k]⟩
  | .tup xs, _, k, h => by
    simp only [MP.refOk] at k
    simp only [RV] at h ⊢
    obtain ⟨a, vs, rfl, h1, h2⟩ := h
    exact ⟨a, vs, rfl, by rw [s.B, s.H]; exact h1, RVs.sub s k h2⟩
  | .lst xs, _, k, h => by
    simp only [MP.refOk] at k
    simp only [RV] at h ⊢
    obtain ⟨a, vs, rfl, h1, w, h2⟩ := h
    exact ⟨a, vs, rfl, by rw [s.H]; exact h1, fun z => w (s.w a z), RVs.sub s k h2⟩
  | .exn c fs, _, k, h => by
    simp only [MP.refOk] at k
    simp only [RV] at h ⊢
    obtain ⟨a, d, rfl, h1, h2⟩ := h
    refine ⟨a, d, rfl, by rw [s.B]; exact h1, ?_⟩
    rcases h2 with h2 | ⟨dx, vs, rfl, hne, h3, h4, h5⟩
    · exact .inl h2
    · exact .inr ⟨dx, vs, rfl, hne, by rw [s.B, s.H]; exact h3, by rw [s.B]; exact h4, RVs.sub s k h5⟩
  | .dic _ _, _, _, h => by
    simp only [RV] at h ⊢
    obtain ⟨a, rfl, h1, w, h2⟩ := h
    exact ⟨a, rfl, by rw [s.H]; exact h1, fun z => w (s.w a z), h2⟩
  | .scr _, _, _, h => by
    simp only [RV] at h ⊢
    obtain ⟨a, rfl, h1⟩ := h
    exact ⟨a, rfl, SqW.sub s h1⟩
  | .kup _, _, _, h => by
    simp only [RV] at h ⊢
    rw [s.H]
    exact h
theorem RVs.sub (s : Sub n r r2) : ∀ {xs : List D} {vs : List V}, refOks n xs → RVs r xs vs → RVs r2 xs vs
  | [], _, _, h => by rw [RVs.invN h]; exact RVs.nil
  | x :: xs, _, k, h => by
    simp only [MP.refOks] at k
    obtain ⟨v, ws, rfl, h1, h2⟩ := RVs.inv h
    exact RVs.cons (RV.sub s k.1 h1) (RVs.sub s k.2 h2)
end
def refNd (n : Nat) : Nd → Prop
  | .lst xs => refOks n xs
  | .dic _ _ vs => refOks n vs
  | .ins _ fs => refOks n (fs.map (·.2))
theorem RO.refs {r : RC} {o : HO} : ∀ {nd : Nd}, RO r o nd → refNd r.ns.length nd
  | .lst _, ⟨_, _, q⟩ => RVs.refOks q
  | .dic t _ _, h => by
    cases t
    · obtain ⟨_, _, _, _, q⟩ := h; exact RVs.refOks q
    · obtain ⟨_, _, _, _, q⟩ := h; exact RVs.refOks q
  | .ins _ _, ⟨_, _, _, _, q⟩ => RVs.refOks q
theorem RO.sub (s : Sub n r r2) {o : HO} : ∀ {nd : Nd}, refNd n nd → RO r o nd → RO r2 o nd
  | .lst _, k, ⟨vs, e, q⟩ => ⟨vs, e, RVs.sub s k q⟩
  | .dic t _ _, k, h => by
    cases t
    · obtain ⟨kvs, h1, h2, h3, q⟩ := h; exact ⟨kvs, h1, h2, h3, RVs.sub s k q⟩
    · obtain ⟨kvs, h1, h2, h3, q⟩ := h; exact ⟨kvs, h1, h2, h3, RVs.sub s k q⟩
  | .ins _ _, k, ⟨dx, gs, h1, h2, q⟩ => ⟨dx, gs, by rw [s.B]; exact h1, by rw [s.B]; exact h2, RVs.sub s k q⟩
theorem RVs.frzs {f : D → Option D} (ih : ∀ (d d' : D) (v : V), f d = some d' → RV r d v → RV r2 d' v) : ∀ {xs ys : List D} {vs : List V}, mapO f xs = some ys → RVs r xs vs → RVs r2 ys vs
  | [], ys, vs, e, h => by
    cases e
    rw [RVs.invN h]; exact RVs.nil
  | x :: xs, ys, vs, e, h => by
    obtain ⟨y, ys, e1, e2, rfl⟩ := mapO_cons e
    obtain ⟨v, ws, rfl, h1, h2⟩ := RVs.inv h
    exact RVs.cons (ih x y v e1 h1) (RVs.frzs ih e2 h2)
theorem RV.frz {x : Nat} (R : Rep r) (s : Sub n r r2) (hn : ∀ i, n ≤ i → i < r.ns.length → i ≠ x → ¬ r2.W (r.loc i)) : ∀ (k : Nat) (d d' : D) (v : V), frz r.ns n x k d = some d' → RV r d v → RV r2 d' v
  | 0, d, d', v, e, h => by simp [MP.frz] at e
  | k + 1, d, d', v, e, h => by
    have ih := RV.frz R s hn k
    cases d with
    | non => simp only [MP.frz, Option.some.injEq] at e; subst e; exact RV.sub s (by simp only [MP.refOk]) h
    | bl b => simp only [MP.frz, Option.some.injEq] at e; subst e; exact RV.sub s (by simp only [MP.refOk]) h
    | int i => simp only [MP.frz, Option.some.injEq] at e; subst e; exact RV.sub s (by simp only [MP.refOk]) h
    | str t => simp only [MP.frz, Option.some.injEq] at e; subst e; exact RV.sub s (by simp only [MP.refOk]) h
    | dic ks vs => simp only [MP.frz, Option.some.injEq] at e; subst e; exact RV.sub s (by simp only [MP.refOk]) h
    | exn c fs => simp [MP.frz] at e
    | scr ns => simp [MP.frz] at e
    | kup ns => simp [MP.frz] at e
    | tup xs =>
      simp only [MP.frz, Option.map_eq_some_iff] at e
      obtain ⟨ys, e, rfl⟩ := e
      simp only [RV] at h ⊢
      obtain ⟨a, vs, rfl, h1, h2⟩ := h
      exact ⟨a, vs, rfl, by rw [s.B, s.H]; exact h1, RVs.frzs ih e h2⟩
    | lst xs =>
      simp only [MP.frz, Option.map_eq_some_iff] at e
      obtain ⟨ys, e, rfl⟩ := e
      simp only [RV] at h ⊢
      obtain ⟨a, vs, rfl, h1, w, h2⟩ := h
      exact ⟨a, vs, rfl, by rw [s.H]; exact h1, fun z => w (s.w a z), RVs.frzs ih e h2⟩
    | ref i =>
      simp only [MP.frz] at e
      split at e
      · rename_i hi
        cases e
        exact RV.sub s (by simp only [MP.refOk]; exact hi) h
      · rename_i hi
        split at e
        · cases e
        · rename_i hx
          simp only [Option.bind_eq_some_iff, Option.map_eq_some_iff] at e
          obtain ⟨xs, ⟨nd, e1, e2⟩, ys, e3, rfl⟩ := e
          cases nd with
          | lst zs =>
            cases e2
            obtain ⟨vs, h1, h2⟩ := (R.nod i _ e1).lst
            simp only [RV] at h ⊢
            obtain ⟨hl, rfl⟩ := h
            exact ⟨_, vs, rfl, by rw [s.H]; exact h1, hn i (Nat.le_of_not_lt hi) hl hx, RVs.frzs ih e3 h2⟩
          | _ => cases e2
end
theorem take_get {α : Type} {h h0 : List α} (e : h.take h0.length = h0) {i : Nat} {x : α} (q : h0[i]? = some x) : h[i]? = some x := by
  have hi := get_lt q
  rw [← e, List.getElem?_take] at q
  rw [if_pos hi] at q
  exact q
theorem take_len {α : Type} {h h0 : List α} (e : h.take h0.length = h0) : h0.length ≤ h.length := by
  have q := congrArg List.length e
  rw [List.length_take] at q
  omega
/-- a pure end: the nodes that were made are let go -/
theorem pure_end {r r' : RC} (R : Rep r) (e : Ext r r') (R' : Rep r') (ht : r'.ns.take r.ns.length = r.ns) :
    Sub r.ns.length r' { r' with ns := r.ns } ∧ Ext r { r' with ns := r.ns } ∧ Rep { r' with ns := r.ns } ∧ ∀ i, r.ns.length ≤ i → i < r'.ns.length → ¬ RC.W { r' with ns := r.ns } (r'.loc i) := by
  have hw : ∀ a, RC.W { r' with ns := r.ns } a → r'.W a := fun a w => by
    rcases w with ⟨i, xs, q, rfl⟩ | w
    · exact .inl ⟨i, xs, take_get ht q, rfl⟩
    · exact .inr w
  have s : Sub r.ns.length r' { r' with ns := r.ns } := ⟨rfl, rfl, hw, fun _ _ => rfl, Nat.le_refl _⟩
  refine ⟨s, ⟨⟨e.B, e.keep, fun a w => e.own a (hw a w), e.loc, Nat.le_refl _⟩, e.pv, e.prv⟩, ⟨fun i j hi hj => R'.inj i j (Nat.lt_of_lt_of_le hi (take_len ht)) (Nat.lt_of_lt_of_le hj (take_len ht)), fun i nd q => ?_, fun i nd q => R'.sep i nd (take_get ht q), R'.pvs⟩, fun i h1 h2 w => ?_⟩
  · obtain ⟨o, h1, h2⟩ := R'.nod i _ (take_get ht q)
    obtain ⟨_, _, h4⟩ := R.nod i _ q
    exact ⟨o, h1, RO.sub s h4.refs h2⟩
  · rcases w with ⟨j, xs, q, z⟩ | w
    · have hj : j < r.ns.length := get_lt q
      have := R'.inj j i (Nat.lt_of_lt_of_le hj (take_len ht)) h2 z
      omega
    · exact R'.sep i _ (List.getElem?_eq_getElem h2) w
def RC.one (r : RC) (h0 : Hs) (i : Nat) (xs : List D) : RC := ⟨r.B, r.H, fun j => if j = h0.length then r.loc i else r.loc j, h0 ++ [.lst xs], r.pv⟩
theorem root_end {r r' : RC} (R : Rep r) (e : Ext r r') (R' : Rep r') (ht : r'.ns.take r.ns.length = r.ns) {i : Nat} {xs ys : List D} (hi : r.ns.length ≤ i) (hx : r'.ns[i]? = some (.lst xs)) (hf : mapO (frz r'.ns r.ns.length i 40) xs = some ys) :
    Ext r (r'.one r.ns i ys) ∧ Rep (r'.one r.ns i ys) ∧ RV (r'.one r.ns i ys) (.ref r.ns.length) (.ref (r'.loc i)) := by
  have il := get_lt hx
  have ll : ∀ j, j < r.ns.length → (r'.one r.ns i ys).loc j = r'.loc j := fun j hj => if_neg (Nat.ne_of_lt hj)
  have lp : (r'.one r.ns i ys).loc r.ns.length = r'.loc i := if_pos rfl
  have tl := take_len ht
  have len : (r'.one r.ns i ys).ns.length = r.ns.length + 1 := by
    show (r.ns ++ [Nd.lst ys]).length = _
    simp
  have hw : ∀ a, (r'.one r.ns i ys).W a → r'.W a := fun a w => by
    rcases w with ⟨j, zs, q, rfl⟩ | w
    · rcases get_app q with ⟨hj, q⟩ | ⟨rfl, _⟩
      · rw [ll j hj]
        exact .inl ⟨j, zs, take_get ht q, rfl⟩
      · rw [lp]
        exact .inl ⟨i, _, hx, rfl⟩
    · exact .inr w
  have s : Sub r.ns.length r' (r'.one r.ns i ys) := ⟨rfl, rfl, hw, ll, by rw [len]; exact Nat.le_succ _⟩
  have hn : ∀ j, r.ns.length ≤ j → j < r'.ns.length → j ≠ i → ¬ (r'.one r.ns i ys).W (r'.loc j) := fun j h1 h2 h3 w => by
    rcases w with ⟨k, zs, q, z⟩ | w
    · rcases get_app q with ⟨hk, q⟩ | ⟨rfl, _⟩
      · rw [ll k hk] at z
        have := R'.inj k j (Nat.lt_of_lt_of_le hk tl) h2 z
        omega
      · rw [lp] at z
        exact h3 (R'.inj i j il h2 z).symm
    · exact R'.sep j _ (List.getElem?_eq_getElem h2) w
  refine ⟨⟨⟨e.B, e.keep, fun a w => e.own a (hw a w), fun j hj => (ll j hj).trans (e.loc j hj), s.len⟩, e.pv, e.prv⟩, ⟨fun a b ha hb z => ?_, fun j nd q => ?_, fun j nd q w => ?_, R'.pvs⟩, ?_⟩
  · rw [len] at ha hb
    by_cases ea : a = r.ns.length
    · by_cases eb : b = r.ns.length
      · rw [ea, eb]
      · have hb2 : b < r.ns.length := by omega
        rw [ea, lp, ll b hb2] at z
        have := R'.inj i b il (by omega) z
        omega
    · have ha2 : a < r.ns.length := by omega
      by_cases eb : b = r.ns.length
      · rw [eb, lp, ll a ha2] at z
        have := R'.inj a i (by omega) il z
        omega
      · rw [ll a ha2, ll b (by omega)] at z
        exact R'.inj a b (by omega) (by omega) z
  · rcases get_app q with ⟨hj, q⟩ | ⟨rfl, rfl⟩
    · obtain ⟨o, h1, h2⟩ := R'.nod j _ (take_get ht q)
      obtain ⟨_, _, h4⟩ := R.nod j _ q
      exact ⟨o, by rw [ll j hj]; exact h1, RO.sub s h4.refs h2⟩
    · obtain ⟨vs, h1, h2⟩ := (R'.nod i _ hx).lst
      exact ⟨_, by rw [lp]; exact h1, vs, rfl, RVs.frzs (RV.frz R' s hn 40) hf h2⟩
  · rcases get_app q with ⟨hj, q⟩ | ⟨rfl, rfl⟩
    · rw [ll j hj] at w
      exact R'.sep j _ (take_get ht q) w
    · rw [lp] at w
      exact R'.sep i _ hx w
  · simp only [RV]
    exact ⟨by rw [len]; exact Nat.lt_succ_self _, by rw [lp]⟩
mutual
theorem refB_ok {n : Nat} : ∀ {d : D}, refB n d = true → refOk n d
  | .non, _ => by simp only [MP.refOk]
  | .bl _, _ => by simp only [MP.refOk]
  | .int _, _ => by simp only [MP.refOk]
  | .str _, _ => by simp only [MP.refOk]
  | .ref i, h => by simp only [MP.refOk]; simp only [refB, decide_eq_true_eq] at h; exact h
  | .tup xs, h => by simp only [MP.refOk]; simp only [refB] at h; exact refBs_ok h
  | .lst xs, h => by simp only [MP.refOk]; simp only [refB] at h; exact refBs_ok h
  | .exn _ fs, h => by simp only [MP.refOk]; simp only [refB] at h; exact refBs_ok h
  | .dic _ _, _ => by simp only [MP.refOk]
  | .scr _, _ => by simp only [MP.refOk]
  | .kup _, _ => by simp only [MP.refOk]
theorem refBs_ok {n : Nat} : ∀ {xs : List D}, refBs n xs = true → refOks n xs
  | [], _ => by simp only [MP.refOks]
  | x :: xs, h => by
    simp only [refBs, Bool.and_eq_true] at h
    simp only [MP.refOks]
    exact ⟨refB_ok h.1, refBs_ok h.2⟩
end
theorem refN_ok {n : Nat} : ∀ {nd : Nd}, refN n nd = true → refNd n nd
  | .lst _, h => refBs_ok h
  | .dic _ _ _, h => refBs_ok h
  | .ins _ _, h => refBs_ok h
theorem take_get2 {α : Type} {h : List α} {n i : Nat} {x : α} (q : (h.take n)[i]? = some x) : i < n ∧ h[i]? = some x := by
  rw [List.getElem?_take] at q
  split at q
  · exact ⟨by assumption, q⟩
  · cases q
/-- a call's end: the new nodes are let go, the old ones have changed -/
theorem cut_end {r r' : RC} (R : Rep r) (e : Ext r r') (R' : Rep r') (ht : cutOk r.ns r'.ns = true) :
    Sub r.ns.length r' { r' with ns := r'.ns.take r.ns.length } ∧ Ext r { r' with ns := r'.ns.take r.ns.length } ∧ Rep { r' with ns := r'.ns.take r.ns.length } ∧ ∀ i, r.ns.length ≤ i → i < r'.ns.length → ¬ RC.W { r' with ns := r'.ns.take r.ns.length } (r'.loc i) := by
  simp only [cutOk, Bool.and_eq_true, decide_eq_true_eq, List.all_eq_true] at ht
  obtain ⟨hl, ha⟩ := ht
  have ln : (r'.ns.take r.ns.length).length = r.ns.length := by rw [List.length_take]; omega
  have hw : ∀ a, RC.W { r' with ns := r'.ns.take r.ns.length } a → r'.W a := fun a w => by
    rcases w with ⟨i, xs, q, rfl⟩ | w
    · exact .inl ⟨i, xs, (take_get2 q).2, rfl⟩
    · exact .inr w
  have s : Sub r.ns.length r' { r' with ns := r'.ns.take r.ns.length } := ⟨rfl, rfl, hw, fun _ _ => rfl, Nat.le_of_eq ln.symm⟩
  refine ⟨s, ⟨⟨e.B, e.keep, fun a w => e.own a (hw a w), e.loc, Nat.le_of_eq ln.symm⟩, e.pv, e.prv⟩, ⟨fun i j hi hj => ?_, fun i nd q => ?_, fun i nd q => R'.sep i nd (take_get2 q).2, R'.pvs⟩, fun i h1 h2 w => ?_⟩
  · rw [ln] at hi hj
    exact R'.inj i j (Nat.lt_of_lt_of_le hi hl) (Nat.lt_of_lt_of_le hj hl)
  · obtain ⟨o, h1, h2⟩ := R'.nod i _ (take_get2 q).2
    exact ⟨o, h1, RO.sub s (refN_ok (ha nd (List.mem_of_getElem? q))) h2⟩
  · rcases w with ⟨j, xs, q, z⟩ | w
    · have hj := (take_get2 q).1
      have := R'.inj j i (Nat.lt_of_lt_of_le hj hl) h2 z
      omega
    · exact R'.sep i _ (List.getElem?_eq_getElem h2) w
theorem good_exc {ec : EC} {r : RC} {σ : St} {Q : VK} {W : WX} {c : Nat} {fs : List D} {h : Hs} (R : Rep r) (g : GV ec r σ Q W (if h.take r.ns.length = r.ns then (match mapO (frz h r.ns.length h.length 40) fs with
      | some fs => .exc c fs r.ns
      | none => .bad) else .bad)) : GV ec r σ Q W (.exc c fs h) := by
  obtain ⟨ht, g2⟩ := Good.ite g
  clear g
  split at g2
  · rename_i gs hf
    intro r' d n e R' q
    subst n
    obtain ⟨s, e2, R2, hn⟩ := pure_end R e R' ht
    refine g2 { r' with ns := r.ns } d rfl e2 R2 ?_
    rcases q with ⟨rfl, rfl⟩ | ⟨dx, vs, rfl, hne, h1, h2, h3⟩
    · cases hf
      exact .inl ⟨rfl, rfl⟩
    · have hg : gs ≠ [] := fun z => by
        subst z
        cases fs with
        | nil => exact hne rfl
        | cons y ys =>
          obtain ⟨_, _, _, _, e⟩ := mapO_cons hf
          cases e
      exact .inr ⟨dx, vs, rfl, hg, h1, h2, RVs.frzs (RV.frz R' s (fun i h1 h2 _ => hn i h1 h2) 40) hf h3⟩
  · exact False.elim g2
/-- a call's end as the caller sees it -/
theorem good_end {ec : EC} {r : RC} {σ : St} {Q : VK} {W : WX} {md : Md} {x : MP.R D} (R : Rep r) (g : GV ec r σ Q W (endCall md r.ns x)) : GV ec r σ Q W x := by
  cases md with
  | raw => exact g
  | pure =>
    cases x with
    | bad => exact g
    | exc c fs h => exact good_exc R g
    | ok d h =>
      simp only [endCall] at g
      obtain ⟨ht, g2⟩ := Good.ite g
      clear g
      cases hf : frz h r.ns.length h.length 40 d with
      | none => rw [hf] at g2; exact False.elim g2
      | some d' =>
        rw [hf] at g2
        intro r' b n e R' q
        subst n
        obtain ⟨s, e2, R2, hn⟩ := pure_end R e R' ht
        exact g2 { r' with ns := r.ns } b rfl e2 R2 (RV.frz R' s (fun i h1 h2 _ => hn i h1 h2) 40 d d' b hf q)
  | cut =>
    cases x with
    | bad => exact g
    | exc c fs h => exact False.elim g
    | ok d h =>
      simp only [endCall] at g
      obtain ⟨ht, g2⟩ := Good.ite g
      clear g
      cases hf : frz h r.ns.length h.length 40 d with
      | none => rw [hf] at g2; exact False.elim g2
      | some d' =>
        rw [hf] at g2
        intro r' b n e R' q
        subst n
        obtain ⟨s, e2, R2, hn⟩ := cut_end R e R' ht
        exact g2 { r' with ns := r'.ns.take r.ns.length } b rfl e2 R2 (RV.frz R' s (fun i h1 h2 _ => hn i h1 h2) 40 d d' b hf q)
  | root =>
    cases x with
    | bad => exact g
    | exc c fs h => exact good_exc R g
    | ok d h =>
      cases d with
      | ref i =>
        simp only [endCall] at g
        obtain ⟨ht, g2⟩ := Good.ite g
        clear g
        split at g2
        · rename_i xs hx
          split at g2
          · rename_i ys hf
            intro r' b n e R' q
            subst n
            obtain ⟨e2, R2, q2⟩ := root_end R e R' ht.1 ht.2 hx hf
            simp only [RV] at q
            obtain ⟨_, rfl⟩ := q
            exact g2 (r'.one r.ns i ys) _ rfl e2 R2 q2
          · exact False.elim g2
        · exact False.elim g2
      | _ => exact False.elim g
section
variable {cf : Cf} {G : Gl} {C : Nat → List D → Hs → MP.R D} {ec : EC} {k n : Nat} {B : RB} {N : List Str} {sc : Scope} {X : Cx} {e a b c : Expr} {es : List Expr} {m ma mb mc : E} {ms : List E} {pos p2 p : Pos}
/-- the nodes hidden: a call that knows none of them -/
def RC.hide (r : RC) : RC := ⟨r.B, r.H, r.loc, [], r.W⟩
theorem hide_W {r : RC} : ∀ a, r.hide.W a ↔ r.W a := fun a => ⟨fun w => by
  rcases w with ⟨i, nd, q, _⟩ | w
  · cases q
  · exact w, fun w => .inr w⟩
theorem Rep.hide {r : RC} (R : Rep r) : Rep r.hide :=
  ⟨fun i j hi _ _ => absurd hi (Nat.not_lt_zero _), fun i nd q => (nomatch (show (none : Option Nd) = some nd from q)), fun i nd q => (nomatch (show (none : Option Nd) = some nd from q)), fun a w => by
    rcases (show r.W a from w) with ⟨i, nd, q, rfl⟩ | w
    · obtain ⟨o, h1, h2⟩ := R.nod i nd q
      exact ⟨o, h1, h2.node⟩
    · exact R.pvs a w⟩
theorem iso_sub {r : RC} : MP.Sub 0 r r.hide := ⟨rfl, rfl, fun a w => (hide_W a).mp w, fun _ h => absurd h (Nat.not_lt_zero _), Nat.zero_le _⟩
/-- back from it -/
def RC.back (r r' : RC) : RC := ⟨r.B, r'.H, r.loc, r.ns, r.pv⟩
theorem iso_back {r r' : RC} (R : Rep r) (e : Ext r.hide r') (R' : Rep r') :
    MP.Sub 0 r' (r.back r') ∧ Ext r (r.back r') ∧ Rep (r.back r') ∧ ∀ i, 0 ≤ i → i < r'.ns.length → ¬ (r.back r').W (r'.loc i) := by
  have hw : ∀ a, (r.back r').W a → r.W a := fun a w => w
  have hp : ∀ a, r.W a → r'.pv a := fun a w => e.pv a w
  have e2 : Ext r (r.back r') := ⟨⟨rfl, fun a o h n => e.keep a o h fun w => n ((hide_W a).mp w), fun a w => .inl (hw a w), fun _ _ => rfl, Nat.le_refl _⟩, fun _ h => h, fun a h => e.prv a (.inr h)⟩
  refine ⟨⟨e.B.symm, rfl, fun a w => .inr (hp a (hw a w)), fun _ h => absurd h (Nat.not_lt_zero _), Nat.zero_le _⟩, e2, ⟨R.inj, fun i nd q => ?_, R.sep, fun a h => ?_⟩, fun i _ hi w => R'.sep i _ (List.getElem?_eq_getElem hi) (hp _ (hw _ w))⟩
  · exact RN.ext0 R e2.toExt0 (R.nod i nd q) (e.prv _ (.inl ⟨i, nd, q, rfl⟩))
  · obtain ⟨o, h1, h2⟩ := R.pvs a h
    exact ⟨o, (e.prv a (.inr h)).trans h1, h2⟩
theorem good_iso {ec : EC} {r : RC} {σ : St} {Q : VK} {W : WX} {x : MP.R D} (R : Rep r) (g : GV ec r σ Q W (MP.R.at r.ns (endCall .pure [] x))) : GV ec r.hide σ Q W x := by
  cases x with
  | bad => exact g
  | exc c fs h =>
    simp only [endCall, List.length_nil, List.take_zero, if_true] at g
    intro r' d n e R' q
    subst n
    obtain ⟨s, e2, R2, hn⟩ := iso_back R e R'
    cases hf : mapO (frz r'.ns 0 r'.ns.length 40) fs with
    | none => rw [hf] at g; exact False.elim g
    | some gs =>
      rw [hf] at g
      refine g (r.back r') d rfl e2 R2 ?_
      rcases q with ⟨rfl, rfl⟩ | ⟨dx, vs, rfl, hne, h1, h2, h3⟩
      · cases hf
        exact .inl ⟨rfl, rfl⟩
      · have hg : gs ≠ [] := fun z => by
          subst z
          cases fs with
          | nil => exact hne rfl
          | cons y ys =>
            obtain ⟨_, _, _, _, e⟩ := mapO_cons hf
            cases e
        have eB : r'.B = r.B := e.B
        rw [eB] at h1 h2
        exact .inr ⟨dx, vs, rfl, hg, h1, h2, RVs.frzs (RV.frz R' s (fun i h1 h2 _ => hn i h1 h2) 40) hf h3⟩
  | ok d h =>
    simp only [endCall, List.length_nil, List.take_zero, if_true] at g
    intro r' b n e R' q
    subst n
    obtain ⟨s, e2, R2, hn⟩ := iso_back R e R'
    cases hf : frz r'.ns 0 r'.ns.length 40 d with
    | none => rw [hf] at g; exact False.elim g
    | some d' =>
      rw [hf] at g
      exact g (r.back r') b rfl e2 R2 (RV.frz R' s (fun i h1 h2 _ => hn i h1 h2) 40 d d' b hf q)
/-- the list nodes frozen, all else hidden: a call that may read them -/
def RC.still (r : RC) : RC := ⟨r.B, r.H, r.loc, [], fun a => r.pv a ∨ ∃ i nd, r.ns[i]? = some nd ∧ r.loc i = a ∧ seqN nd = none⟩
theorem still_W {r : RC} {a : Addr} (w : r.still.W a) : r.W a := by
  rcases w with ⟨i, nd, q, _⟩ | w | ⟨i, nd, q, e, _⟩
  · cases q
  · exact .inr w
  · exact .inl ⟨i, nd, q, e⟩
theorem Rep.still {r : RC} (R : Rep r) : Rep r.still :=
  ⟨fun i j hi _ _ => absurd hi (Nat.not_lt_zero _), fun i nd q => (nomatch (show (none : Option Nd) = some nd from q)), fun i nd q => (nomatch (show (none : Option Nd) = some nd from q)), fun a w => by
    rcases w with w | ⟨i, nd, q, rfl, _⟩
    · exact R.pvs a w
    · obtain ⟨o, h1, h2⟩ := R.nod i nd q
      exact ⟨o, h1, h2.node⟩⟩
theorem still_lst {r : RC} (R : Rep r) {i : Nat} {xs : List D} (q : r.ns[i]? = some (.lst xs)) : ¬ r.still.W (r.loc i) := by
  rintro (⟨j, nd, e, _⟩ | w | ⟨j, nd, e, z, n⟩)
  · cases e
  · exact R.sep i _ q w
  · have := R.inj j i (get_lt e) (get_lt q) z
    subst this
    rw [q] at e
    cases e
    cases n
theorem RVs.stills {r : RC} {f : D → Option D} (ih : ∀ (d d' : D) (v : V), f d = some d' → RV r d v → RV r.still d' v) : ∀ {xs ys : List D} {vs : List V}, mapO f xs = some ys → RVs r xs vs → RVs r.still ys vs
  | [], ys, vs, e, h => by
    cases e
    rw [RVs.invN h]; exact RVs.nil
  | x :: xs, ys, vs, e, h => by
    obtain ⟨y, ys, e1, e2, rfl⟩ := mapO_cons e
    obtain ⟨v, ws, rfl, h1, h2⟩ := RVs.inv h
    exact RVs.cons (ih x y v e1 h1) (RVs.stills ih e2 h2)
theorem RV.stil {r : RC} (R : Rep r) : ∀ (k : Nat) (d d' : D) (v : V), deep false r.ns k d = some d' → RV r d v → RV r.still d' v
  | 0, d, d', v, e, h => by simp [deep] at e
  | k + 1, d, d', v, e, h => by
    have ih := RV.stil R k
    cases d with
    | non => simp only [deep, Option.some.injEq] at e; subst e; simpa only [RV] using h
    | bl b => simp only [deep, Option.some.injEq] at e; subst e; simpa only [RV] using h
    | int i => simp only [deep, Option.some.injEq] at e; subst e; simpa only [RV] using h
    | str t => simp only [deep, Option.some.injEq] at e; subst e; simpa only [RV] using h
    | dic ks vs => simp [deep] at e
    | exn c fs => simp [deep] at e
    | scr ns => simp [deep] at e
    | kup ns => simp [deep] at e
    | tup xs =>
      simp only [deep, Option.map_eq_some_iff] at e
      obtain ⟨ys, e, rfl⟩ := e
      simp only [RV] at h ⊢
      obtain ⟨a, vs, rfl, h1, h2⟩ := h
      exact ⟨a, vs, rfl, h1, RVs.stills ih e h2⟩
    | lst xs =>
      simp only [deep, Option.map_eq_some_iff] at e
      obtain ⟨ys, e, rfl⟩ := e
      simp only [RV] at h ⊢
      obtain ⟨a, vs, rfl, h1, w, h2⟩ := h
      exact ⟨a, vs, rfl, h1, fun z => w (still_W z), RVs.stills ih e h2⟩
    | ref i =>
      simp only [deep, Option.bind_eq_some_iff, Option.map_eq_some_iff] at e
      obtain ⟨xs, ⟨nd, e1, e2⟩, ys, e3, rfl⟩ := e
      cases nd with
      | lst zs =>
        cases e2
        obtain ⟨vs, h1, h2⟩ := (R.nod i _ e1).lst
        simp only [RV] at h ⊢
        obtain ⟨hl, rfl⟩ := h
        exact ⟨_, vs, rfl, h1, still_lst R e1, RVs.stills ih e3 h2⟩
      | _ => cases e2
mutual
theorem RV.noL {r r2 : RC} (eB : r2.B = r.B) (eH : r2.H = r.H) : ∀ {d : D} {v : V}, MP.noL d = true → RV r d v → RV r2 d v
  | .non, _, _, h => by simpa only [RV] using h
  | .bl _, _, _, h => by simpa only [RV] using h
  | .int _, _, _, h => by simpa only [RV] using h
  | .str _, _, _, h => by simpa only [RV] using h
  | .ref i, _, n, h => by simp [MP.noL] at n
  | .tup xs, _, n, h => by
    simp only [MP.noL] at n
    simp only [RV] at h ⊢
    obtain ⟨a, vs, rfl, h1, h2⟩ := h
    exact ⟨a, vs, rfl, by rw [eB, eH]; exact h1, RVs.noLs eB eH n h2⟩
  | .lst xs, _, n, h => by simp [MP.noL] at n
  | .exn c fs, _, n, h => by simp [MP.noL] at n
  | .dic ks vs, _, n, h => by simp [MP.noL] at n
  | .scr ns, _, n, h => by simp [MP.noL] at n
  | .kup ns, _, n, h => by simp [MP.noL] at n
theorem RVs.noLs {r r2 : RC} (eB : r2.B = r.B) (eH : r2.H = r.H) : ∀ {xs : List D} {vs : List V}, MP.noLs xs = true → RVs r xs vs → RVs r2 xs vs
  | [], _, _, h => by rw [RVs.invN h]; exact RVs.nil
  | x :: xs, _, n, h => by
    simp only [MP.noLs, Bool.and_eq_true] at n
    obtain ⟨v, ws, rfl, h1, h2⟩ := RVs.inv h
    exact RVs.cons (RV.noL eB eH n.1 h1) (RVs.noLs eB eH n.2 h2)
end
/-- a value let go out of a callee's heap -/
def RC.clr (r : RC) : RC := ⟨r.B, r.H, r.loc, [], r.pv⟩
theorem clr_sub {r : RC} (R : Rep r) : MP.Sub 0 r r.clr ∧ ∀ i, 0 ≤ i → i < r.ns.length → ¬ r.clr.W (r.loc i) := by
  refine ⟨⟨rfl, rfl, fun a w => ?_, fun _ h => absurd h (Nat.not_lt_zero _), Nat.zero_le _⟩, fun i _ hi w => ?_⟩
  · rcases w with ⟨i, nd, q, _⟩ | w
    · cases q
    · exact .inr w
  · rcases w with ⟨i, nd, q, _⟩ | w
    · cases q
    · exact R.sep i _ (List.getElem?_eq_getElem hi) w
theorem still_back {r r' : RC} (R : Rep r) (e : Ext r.still r') : Ext r (r.back r') ∧ Rep (r.back r') := by
  have hn : ∀ (i : Nat) (nd : Nd), r.ns[i]? = some nd → r'.H (r.loc i) = r.H (r.loc i) := fun i nd q => by
    obtain ⟨o, h1, h2⟩ := R.nod i nd q
    cases hs : seqN nd with
    | none => exact e.prv _ (.inr ⟨i, nd, q, rfl, hs⟩)
    | some xs =>
      cases nd with
      | lst ys => exact (e.keep _ o h1 (still_lst R q)).trans h1.symm
      | _ => cases hs
  have e2 : Ext r (r.back r') := ⟨⟨rfl, fun a o h n => e.keep a o h fun w => n (still_W w), fun a w => .inl w, fun _ _ => rfl, Nat.le_refl _⟩, fun _ h => h, fun a h => e.prv a (.inl h)⟩
  refine ⟨e2, R.inj, fun i nd q => RN.ext0 R e2.toExt0 (R.nod i nd q) (hn i nd q), R.sep, fun a h => ?_⟩
  obtain ⟨o, h1, h2⟩ := R.pvs a h
  exact ⟨o, (e.prv a (.inl h)).trans h1, h2⟩
theorem good_isf {ec : EC} {r : RC} {σ : St} {Q : VK} {W : WX} {x : MP.R D} (R : Rep r) (g : GV ec r σ Q W (MP.R.at r.ns (noLR (endCall .pure [] x)))) : GV ec r.still σ Q W x := by
  cases x with
  | bad => exact g
  | exc c fs h =>
    simp only [endCall, List.length_nil, List.take_zero, if_true] at g
    intro r' d n e R' q
    subst n
    obtain ⟨e2, R2⟩ := still_back R e
    obtain ⟨s, hn⟩ := clr_sub R'
    cases hf : mapO (frz r'.ns 0 r'.ns.length 40) fs with
    | none => rw [hf] at g; exact False.elim g
    | some gs =>
      rw [hf] at g
      simp only [noLR] at g
      by_cases hno : MP.noLs gs = true
      · rw [if_pos hno] at g
        refine g (r.back r') d rfl e2 R2 ?_
        have eB : r'.B = r.B := e.B
        rcases q with ⟨rfl, rfl⟩ | ⟨dx, vs, rfl, hne, h1, h2, h3⟩
        · cases hf
          exact .inl ⟨rfl, rfl⟩
        · have hg : gs ≠ [] := fun z => by
            subst z
            cases fs with
            | nil => exact hne rfl
            | cons y ys =>
              obtain ⟨_, _, _, _, e⟩ := mapO_cons hf
              cases e
          have h4 := RVs.frzs (RV.frz R' s (fun i h1 h2 _ => hn i h1 h2) 40) hf h3
          rw [eB] at h1 h2
          exact .inr ⟨dx, vs, rfl, hg, h1, h2, RVs.noLs (r := r'.clr) (r2 := r.back r') eB.symm rfl hno h4⟩
      · rw [if_neg hno] at g
        exact False.elim g
  | ok d h =>
    simp only [endCall, List.length_nil, List.take_zero, if_true] at g
    intro r' b n e R' q
    subst n
    obtain ⟨e2, R2⟩ := still_back R e
    obtain ⟨s, hn⟩ := clr_sub R'
    cases hf : frz r'.ns 0 r'.ns.length 40 d with
    | none => rw [hf] at g; exact False.elim g
    | some d' =>
      rw [hf] at g
      simp only [MP.R.of, noLR] at g
      by_cases hno : MP.noL d' = true
      · rw [if_pos hno] at g
        have eB : r'.B = r.B := e.B
        have h4 := RV.frz R' s (fun i h1 h2 _ => hn i h1 h2) 40 d d' b hf q
        exact g (r.back r') b rfl e2 R2 (RV.noL (r := r'.clr) (r2 := r.back r') eB.symm rfl hno h4)
      · rw [if_neg hno] at g
        exact False.elim g
theorem snd_call (g0 : XG cf G C ec k B N sc X) {x : Str} {f : Nat} {md : Md} (hx : glo? sc x = true) (hf : ixOf cf.fns x = some f) (hc : cf.calm = true) (he : starEach (e :: es) X.env = (false, eval e X.env) :: starEach es X.env)
    (hp : (backTo pos (starEach es X.env)).any (·.1) = false) (ha : SndA G C ec B X (e :: es) ms) : SndE G C ec B X (.Call (.Name x p) (e :: es) [] pos) (.call f ms md) := by
  intro W tk σ r sl Q eB R S g
  simp only [evE] at g
  obtain ⟨hd, fa, fd, ps, h1, h2, h3, h4, h5⟩ := g0.wf.fn f x (ixOf_get hf)
  obtain ⟨hcm, hr, hxa⟩ := g0.calm hc
  refine TM.of (pe_callG (E := WE W) h4 g0.gd hr (glo_gl g0 hx) h1 h2 h3 (passAt tk) pa_am hd he hp) (ha tk eB R S (g.step fun xs h1 r1 vs _ n1 e1 R1 q1 g1 => ?_))
  subst n1
  have g2 := good_end R1 g1
  refine ⟨r1, xs, by rw [e1.B, eB, g0.eK], by rw [e1.B, eB], by rw [e1.B, eB]; exact hxa, rfl, R1, q1, ?_, g2.conv fun c d H h => h⟩
  rw [← q1.length]
  exact h5 xs r1.ns fun z => by rw [z] at g2; exact g2
theorem snd_call0 (g0 : XG cf G C ec k B N sc X) {x : Str} {f : Nat} {md : Md} (hx : glo? sc x = true) (hf : ixOf cf.fns x = some f) (hc : cf.calm = true) : SndE G C ec B X (.Call (.Name x p) [] [] pos) (.call f [] md) := by
  intro W tk σ r sl Q eB R S g
  simp only [evE, evEs] at g
  obtain ⟨hd, fa, fd, ps, h1, h2, h3, h4, h5⟩ := g0.wf.fn f x (ixOf_get hf)
  obtain ⟨hcm, hr, hxa⟩ := g0.calm hc
  refine TM.of (pe_callG0 (E := WE W) h4 g0.gd hr (glo_gl g0 hx) h1 h2 h3 (passAt tk) hd) ?_
  have g2 := good_end R g
  refine ⟨r, [], by rw [eB, g0.eK], by rw [eB], by rw [eB]; exact hxa, rfl, R, RVs.nil, ?_, g2.conv fun c d H h => h⟩
  exact h5 [] r.ns fun z => by rw [z] at g2; exact g2
theorem snd_iso (g0 : XG cf G C ec k B N sc X) {x : Str} {f : Nat} (hx : glo? sc x = true) (hf : ixOf cf.fns x = some f) (hc : cf.calm = true) (he : starEach (e :: es) X.env = (false, eval e X.env) :: starEach es X.env)
    (hp : (backTo pos (starEach es X.env)).any (·.1) = false) (ha : SndA G C ec B X (e :: es) ms) : SndE G C ec B X (.Call (.Name x p) (e :: es) [] pos) (.iso f ms) := by
  intro W tk σ r sl Q eB R S g
  simp only [evE] at g
  obtain ⟨hd, fa, fd, ps, h1, h2, h3, h4, h5⟩ := g0.wf.fn f x (ixOf_get hf)
  obtain ⟨hcm, hr, hxa⟩ := g0.calm hc
  refine TM.of (pe_callG (E := WE W) h4 g0.gd hr (glo_gl g0 hx) h1 h2 h3 (passAt tk) pa_am hd he hp) (ha tk eB R S (g.step fun xs h1 r1 vs _ n1 e1 R1 q1 g1 => ?_))
  subst n1
  obtain ⟨hb, g1⟩ := Good.ite g1
  have g2 := good_iso R1 g1
  have q2 : RVs r1.hide xs vs := RVs.sub iso_sub (refBs_ok hb) q1
  refine ⟨r1.hide, xs, by show r1.B.K = _; rw [e1.B, eB, g0.eK], by show r1.B.fl = _; rw [e1.B, eB], by show r1.B.xa = _; rw [e1.B, eB]; exact hxa, rfl, R1.hide, q2, ?_, g2.conv fun c d H h => h⟩
  rw [← q1.length]
  exact h5 xs [] fun z => by rw [z] at g2; exact g2
theorem snd_iso0 (g0 : XG cf G C ec k B N sc X) {x : Str} {f : Nat} (hx : glo? sc x = true) (hf : ixOf cf.fns x = some f) (hc : cf.calm = true) : SndE G C ec B X (.Call (.Name x p) [] [] pos) (.iso f []) := by
  intro W tk σ r sl Q eB R S g
  simp only [evE, evEs] at g
  obtain ⟨hd, fa, fd, ps, h1, h2, h3, h4, h5⟩ := g0.wf.fn f x (ixOf_get hf)
  obtain ⟨hcm, hr, hxa⟩ := g0.calm hc
  refine TM.of (pe_callG0 (E := WE W) h4 g0.gd hr (glo_gl g0 hx) h1 h2 h3 (passAt tk) hd) ?_
  have g1 : GV ec r σ Q W (if refBs 0 [] = true then MP.R.at r.ns (endCall Md.pure [] (C f [] [])) else MP.R.bad) := g
  obtain ⟨hb, g1⟩ := Good.ite g1
  have g2 := good_iso R g1
  refine ⟨r.hide, [], by show r.B.K = _; rw [eB, g0.eK], by show r.B.fl = _; rw [eB], by show r.B.xa = _; rw [eB]; exact hxa, rfl, R.hide, RVs.nil, ?_, g2.conv fun c d H h => h⟩
  exact h5 [] [] fun z => by rw [z] at g2; exact g2
theorem snd_isf (g0 : XG cf G C ec k B N sc X) {x : Str} {f : Nat} (hx : glo? sc x = true) (hf : ixOf cf.fns x = some f) (hc : cf.calm = true) (he : starEach (e :: es) X.env = (false, eval e X.env) :: starEach es X.env)
    (hp : (backTo pos (starEach es X.env)).any (·.1) = false) (ha : SndA G C ec B X (e :: es) ms) : SndE G C ec B X (.Call (.Name x p) (e :: es) [] pos) (.isf f ms) := by
  intro W tk σ r sl Q eB R S g
  simp only [evE] at g
  obtain ⟨hd, fa, fd, ps, h1, h2, h3, h4, h5⟩ := g0.wf.fn f x (ixOf_get hf)
  obtain ⟨hcm, hr, hxa⟩ := g0.calm hc
  refine TM.of (pe_callG (E := WE W) h4 g0.gd hr (glo_gl g0 hx) h1 h2 h3 (passAt tk) pa_am hd he hp) (ha tk eB R S (g.step fun xs h1 r1 vs _ n1 e1 R1 q1 g1 => ?_))
  subst n1
  obtain ⟨ws, hw, g1⟩ := Good.of g1
  have g2 := good_isf R1 g1
  have q2 : RVs r1.still ws vs := RVs.stills (RV.stil R1 40) hw q1
  refine ⟨r1.still, ws, by show r1.B.K = _; rw [e1.B, eB, g0.eK], by show r1.B.fl = _; rw [e1.B, eB], by show r1.B.xa = _; rw [e1.B, eB]; exact hxa, rfl, R1.still, q2, ?_, g2.conv fun c d H h => h⟩
  rw [← q2.length]
  exact h5 ws [] fun z => by rw [z] at g2; exact g2
theorem snd_isf0 (g0 : XG cf G C ec k B N sc X) {x : Str} {f : Nat} (hx : glo? sc x = true) (hf : ixOf cf.fns x = some f) (hc : cf.calm = true) : SndE G C ec B X (.Call (.Name x p) [] [] pos) (.isf f []) := by
  intro W tk σ r sl Q eB R S g
  simp only [evE, evEs] at g
  obtain ⟨hd, fa, fd, ps, h1, h2, h3, h4, h5⟩ := g0.wf.fn f x (ixOf_get hf)
  obtain ⟨hcm, hr, hxa⟩ := g0.calm hc
  refine TM.of (pe_callG0 (E := WE W) h4 g0.gd hr (glo_gl g0 hx) h1 h2 h3 (passAt tk) hd) ?_
  have g1 : GV ec r σ Q W (MP.R.at r.ns (noLR (endCall Md.pure [] (C f [] [])))) := g
  have g2 := good_isf R g1
  refine ⟨r.still, [], by show r.B.K = _; rw [eB, g0.eK], by show r.B.fl = _; rw [eB], by show r.B.xa = _; rw [eB]; exact hxa, rfl, R.still, RVs.nil, ?_, g2.conv fun c d H h => h⟩
  exact h5 [] [] fun z => by rw [z] at g2; exact g2
end
end L2.MP
namespace L2.MP
open PySem PySem.Spec PyProof.Rows
section
variable {prog : Program} {w : World} {A : Around} {E : Value → Shared → Prop} {s : Shared}
theorem collect_tupS {l : Addr} {vs : List Value} {Q : List Value → Shared → Prop} (hl : IsTup s.heap l vs.toArray)
    (h : Q vs { s with heap := (s.heap.push (seqObj "list" #[] 0)).update s.heap.objs.size (Obj.mapSeq (· ++ vs.toArray)) }) (hsz : vs.length ≤ sizeLine) :
    wpAny (model prog w) A (collect (.ref l)) Q E s := by
  obtain ⟨o, ho, hc, n, hd⟩ := hl
  unfold collect
  refine wpAny_bind (wpAny_runValue (codeAny_builtin entry_proto_collect' ?_))
  show wpAny _ _ (do again (.builtin "list.__iadd__" ⟨[← newList [], .ref l], []⟩)) _ _ s
  refine wpAny_bind (wpAny_newList (wpAny_pure ⟨Code.quiet_builtin _ (by decide +kernel), codeAny_builtin entry_list_iadd' ?_⟩))
  show wpAny _ _ (Builtin.List.listExtendWith (.ref s.heap.objs.size) (.ref l) (.ref s.heap.objs.size)) _ _ { s with heap := s.heap.push (seqObj "list" #[] 0) }
  unfold Builtin.List.listExtendWith
  have ho' : (s.heap.push (seqObj "list" #[] 0)).get? l = some o := Heap.get?_push_of_some _ ho
  refine wpAny_bind (wpAny_typeOf (T := "tuple") ⟨o, ho', hc⟩ ?_)
  have ht : (Value.type "tuple" == Value.type "tuple") = true := by rfl
  rw [if_pos (by rw [ht]; simp)]
  refine wpAny_bind (listItems_at ho' hd ?_)
  refine wpAny_bind (listItems_at (xs := #[]) (n := 0) (Heap.get?_push_size _ rfl) rfl ?_)
  rw [if_neg (by simp)]
  refine wpAny_bind (listUpdate_at (xs := #[]) (n := 0) (Heap.get?_push_size _ rfl) rfl ?_ (Nat.zero_le _) (by show (#[] ++ vs.toArray).size ≤ sizeLine + 1; simp only [Array.size_append, List.size_toArray, List.length_nil]; omega))
  refine wpAny_pure ?_
  show wpAny (model prog w) A (do
      let o ← load s.heap.objs.size
      match o.data with
      | .seq xs _ => pure xs.toList
      | _ => unsupported "internal:collect") Q E { s with heap := (s.heap.push (seqObj "list" #[] 0)).update s.heap.objs.size (Obj.mapSeq (· ++ vs.toArray)) }
  refine wpAny_bind (wpAny_load (get?_update_seq (Heap.get?_push_size _ rfl) _) ?_)
  show wpAny _ _ (pure ((#[] : Array Value) ++ vs.toArray).toList) Q E _
  rw [show ((#[] : Array Value) ++ vs.toArray).toList = vs by simp]
  exact wpAny_pure h
theorem sorted_strsT {l : Addr} {vs : List Value} {ss : List Str} {Q : Value → Shared → Prop} (hl : IsTup s.heap l vs.toArray) (hS : StrsAre vs ss) (h64 : vs.length < 64)
    (h : ∀ (out : Array Value) (ss' : List Str), StrsAre out.toList ss' → ss'.Perm ss → sortedS ss' = true → Q (.ref (s.heap.objs.size + 1)) { s with heap := sortedAll s.heap vs out }) :
    wpAny (model prog w) A (call (.builtin "sorted") [.ref l]) Q E s := by
  have hz : vs.length ≤ sizeLine := small64 h64
  refine Calls.call_function_entry kind_sorted plain_sorted entry_sorted (args_sorted1 _) ?_
  unfold Builtin.«sorted»
  refine wpAny_bind (m := checkCount "sorted" 1 1 _) (wpAny_pure ?_)
  refine wpAny_bind (collect_tupS hl ?_ hz)
  refine wpAny_bind (wpAny_newList ?_ hz)
  have hsz : ((s.heap.push (seqObj "list" #[] 0)).update s.heap.objs.size (Obj.mapSeq (· ++ vs.toArray))).objs.size = s.heap.objs.size + 1 := by
    rw [Heap.size_update, size_push']
  have hoL : (((s.heap.push (seqObj "list" #[] 0)).update s.heap.objs.size (Obj.mapSeq (· ++ vs.toArray))).push (seqObj "list" vs.toArray 0)).get? (s.heap.objs.size + 1) = some (seqObj "list" vs.toArray 0) := by
    rw [← hsz]; exact Heap.get?_push_size _ rfl
  show wpAny _ _ _ _ _ { s with heap := ((s.heap.push (seqObj "list" #[] 0)).update s.heap.objs.size (Obj.mapSeq (· ++ vs.toArray))).push (seqObj "list" vs.toArray 0) }
  rw [hsz]
  refine wpAny_bind (wpAny_holding (wpAny_call_entry slot_list_sort ⟨_, hoL, rfl⟩ entry_list_sort (list_sort_treeK strKind_oneLt hoL hS.keysOf (fun v₁ v₂ rest e => keyKind_strs (by rw [← e]; exact hS)) h64 fun st' a1 a2 => ⟨_, rfl, ?_⟩) (args_list_sort _)))
  obtain ⟨ss', h1, h2, h3⟩ := sorted_out_str hS a1 a2
  exact wpAny_pure ⟨_, rfl, h _ ss' h1 h2 h3⟩
end
section
variable {X : Cx}
theorem cr_sortedTS : CallR X (.builtin "sorted") (fun vs H Q => ∃ (a : Addr) (xs : List Str), vs = [V.ref a] ∧ SqT X.K H a (xs.map V.str) ∧ xs.length < 64 ∧ ∀ (ys : List Str) (p : Addr), ys.Perm xs → sortedS ys = true → H p = none → Q (.ref p) (upd H p (.lst (ys.map V.str)))) := by
  intro pins s σ H vs us Q I r h
  obtain ⟨a, xs, rfl, hs, h64, q⟩ := h
  obtain ⟨its, rv, hl, _⟩ := I.tuple hs
  rw [Vals.ref1 r]
  have hlen0 := rv.length
  rw [List.length_map] at hlen0
  refine sorted_strsT hl rv.strs (by rw [← hlen0]; exact h64) fun out ys h1 h2 h3 => ?_
  obtain ⟨ep, he'⟩ := PyProof.Rows.sortedAll_at s.heap its out
  have hlen : (ys.map V.str).length ≤ sizeLine := by rw [List.length_map, h2.length_eq]; exact small64 h64
  exact ⟨.ref _, upd H (s.heap.objs.size + 1) (.lst (ys.map V.str)), I.laid (t' := s.toks) (fun _ _ => PyProof.Rows.sortedAll_old) (Nat.le_succ _) ⟨hlen, out.toList, ep, vals_of_strs h1, he'⟩, rfl, q ys _ h2 h3 (I.hok.fresh (Nat.le_succ _))⟩
end
def leS (a b : Str) : Prop := a.cps.toList ≤ b.cps.toList
theorem leS_trans {a b c : Str} (h : leS a b) (k : leS b c) : leS a c := List.le_trans h k
theorem rising_pair : ∀ {r : List Str} {p : Str}, risingS p r = true → (p :: r).Pairwise leS
  | [], p, _ => List.pairwise_singleton ..
  | x :: r, p, h => by
    simp only [risingS, Bool.and_eq_true, Bool.not_eq_true', ltCps_eq, decide_eq_false_iff_not] at h
    have ih := rising_pair h.2
    refine List.pairwise_cons.mpr ⟨fun y hy => ?_, ih⟩
    rcases List.mem_cons.mp hy with rfl | hy
    · exact h.1
    · exact leS_trans h.1 ((List.pairwise_cons.mp ih).1 y hy)
theorem sorted_pair {r : List Str} (h : sortedS r = true) : r.Pairwise leS := by
  cases r with
  | nil => exact List.Pairwise.nil
  | cons x r => exact rising_pair h
theorem srt_pair : ∀ {bs : List (List Nat)}, srtL bs = true → (bs.map SX.S).Pairwise leS
  | [], _ => List.Pairwise.nil
  | [_], _ => List.pairwise_singleton ..
  | s :: t :: r, h => by
    simp only [srtL, strLe, Bool.and_eq_true, Bool.not_eq_true', decide_eq_false_iff_not] at h
    have ih := srt_pair (bs := t :: r) h.2
    have h1 : leS (SX.S s) (SX.S t) := h.1
    refine List.pairwise_cons.mpr ⟨fun y hy => ?_, ih⟩
    rcases List.mem_cons.mp hy with rfl | hy
    · exact h1
    · exact leS_trans h1 ((List.pairwise_cons.mp ih).1 y hy)
theorem srt_uniq {bs : List (List Nat)} {ys : List Str} (h : srtL bs = true) (hp : ys.Perm (bs.map SX.S)) (hs : sortedS ys = true) : ys = bs.map SX.S :=
  List.Perm.eq_of_pairwise (le := leS) (fun a b _ _ h1 h2 => by
    obtain ⟨⟨a⟩⟩ := a
    obtain ⟨⟨b⟩⟩ := b
    have : a = b := List.le_antisymm h1 h2
    rw [this]) (sorted_pair hs) (srt_pair h) hp
theorem occ_digit {c : Nat} (h1 : 48 ≤ c) (h2 : c ≤ 57) : Builtin.Str.occurrences (SX.S [48, 49, 50, 51, 52, 53, 54, 55, 56, 57]) (SX.S [c]) 0 (SX.S [48, 49, 50, 51, 52, 53, 54, 55, 56, 57]).length 1 = [c - 48] := by
  have : c = 48 ∨ c = 49 ∨ c = 50 ∨ c = 51 ∨ c = 52 ∨ c = 53 ∨ c = 54 ∨ c = 55 ∨ c = 56 ∨ c = 57 := by omega
  rcases this with rfl | rfl | rfl | rfl | rfl | rfl | rfl | rfl | rfl | rfl <;> decide +kernel
theorem sidx_run {ec : EC} {r : RC} {x : D} {v : V} {xs : List D} {vs : List V} {σ : St} {Q : VK} {W : WX} (R : Rep r) (h : RV r x v) (hs : RVs r xs vs) (g : GV ec r σ Q W (mtD .sindex x xs r.ns)) :
    ∃ a b i rest, v = .str a ∧ vs = [.str b] ∧ Builtin.Str.occurrences a b 0 a.length 1 = i :: rest ∧ Q (.int (i : Nat)) r.H := by
  have hx : ∃ s c, x = .str s ∧ xs = [.str [c]] := by
    clear h hs
    cases x <;> first | exact False.elim g | skip
    rename_i s
    rcases xs with _ | ⟨y, zs⟩
    · exact False.elim g
    · cases y <;> first | exact False.elim g | skip
      rename_i t
      rcases t with _ | ⟨c, _ | ⟨c2, t⟩⟩
      · exact False.elim g
      · cases zs with
        | nil => exact ⟨_, _, rfl, rfl⟩
        | cons z zs => exact False.elim g
      · exact False.elim g
  obtain ⟨s, c, rfl, rfl⟩ := hx
  obtain ⟨w, rfl, hw⟩ := RVs.single hs
  obtain ⟨rfl, o1⟩ := rv_str h
  obtain ⟨rfl, o2⟩ := rv_str hw
  have g : GV ec r σ Q W (if s = [48, 49, 50, 51, 52, 53, 54, 55, 56, 57] ∧ 48 ≤ c ∧ c ≤ 57 then L2.MP.R.ok (D.int ((c - 48 : Nat) : Int)) r.ns else .bad) := g
  obtain ⟨⟨e1, h1, h2⟩, g2⟩ := Good.ite g
  subst e1
  exact ⟨_, _, _, _, rfl, rfl, occ_digit h1 h2, done R g2 (mk_int _)⟩
end L2.MP
namespace L2.MP
open PySem PySem.Spec PyProof.Rows
section
variable {cf : Cf} {G : Gl} {C : Nat → List D → Hs → MP.R D} {ec : EC} {k n : Nat} {B : RB} {N : List Str} {sc : Scope} {X : Cx} {e a b c : Expr} {es : List Expr} {m ma mb mc : E} {ms : List E} {pos p2 p : Pos}
def biV : BI → Value
  | .len => .builtin "len" | .repr => .builtin "repr" | .str => .type "str" | .int => .type "int" | .tuple => .type "tuple" | .list => .type "list"
  | .all => .builtin "all" | .any => .builtin "any" | .sum => .builtin "sum" | .max => .builtin "max" | .min => .builtin "min" | .sorted => .builtin "sorted"
theorem foldl_min : ∀ (is : List Int) (i : Int), (is.foldl (fun m j => if j < m then j else m) i = i ∨ is.foldl (fun m j => if j < m then j else m) i ∈ is) ∧ is.foldl (fun m j => if j < m then j else m) i ≤ i ∧ ∀ y ∈ is, is.foldl (fun m j => if j < m then j else m) i ≤ y
  | [], i => ⟨.inl rfl, Int.le_refl _, fun _ h => nomatch h⟩
  | j :: is, i => by
    simp only [List.foldl_cons]
    obtain ⟨h1, h2, h3⟩ := foldl_min is (if j < i then j else i)
    refine ⟨?_, ?_, fun y hy => ?_⟩
    · rcases h1 with h1 | h1
      · rw [h1]
        by_cases e : j < i
        · rw [if_pos e]; exact .inr List.mem_cons_self
        · rw [if_neg e]; exact .inl rfl
      · exact .inr (List.mem_cons_of_mem _ h1)
    · refine Int.le_trans h2 ?_
      split <;> omega
    · rcases List.mem_cons.mp hy with rfl | hy
      · refine Int.le_trans h2 ?_
        split <;> omega
      · exact h3 y hy
theorem minI_ok {bs : List Int} {m : Int} (h : minI bs = some m) : m ∈ bs ∧ ∀ y ∈ bs, m ≤ y := by
  cases bs with
  | nil => cases h
  | cons i is =>
    simp only [minI, Option.some.injEq] at h
    obtain ⟨h1, h2, h3⟩ := foldl_min is i
    rw [h] at h1 h2 h3
    refine ⟨?_, fun y hy => ?_⟩
    · rcases h1 with h1 | h1
      · rw [h1]; exact List.mem_cons_self
      · exact List.mem_cons_of_mem _ h1
    · rcases List.mem_cons.mp hy with rfl | hy
      · exact h2
      · exact h3 y hy
theorem tupV_inv {r : RC} (R : Rep r) {x : D} {xs : List D} {v : V} (h : seqV r.ns x = some xs) (q : RV r x v) : ∃ a vs, v = .ref a ∧ RVs r xs vs ∧ ((SqL r.B.K r.H a vs) ∨ (x = .tup xs ∧ SqT r.B.K r.H a vs)) := by
  cases x with
  | tup ys =>
    cases h
    obtain ⟨a, vs, rfl, h1, h2⟩ := tup_inv q
    exact ⟨a, vs, rfl, h2, .inr ⟨rfl, h1⟩⟩
  | lst ys =>
    obtain ⟨a, vs, rfl, h1, h2⟩ := lstV_inv (d := .lst ys) R h q
    exact ⟨a, vs, rfl, h2, .inl (SqL.of h1)⟩
  | ref i =>
    obtain ⟨a, vs, rfl, h1, h2⟩ := lstV_inv (d := .ref i) R h q
    exact ⟨a, vs, rfl, h2, .inl (SqL.of h1)⟩
  | _ => cases h
theorem bi_ok (ok : XOk B k X) (hgd : X.A.guards = some []) (hsys : ∃ o, X.K.lookup sysModules = some o ∧ o.cls = .type "dict") {bi : BI} (hc0 : biCalm bi = true ∨ X.calm = true) {r : RC} {σ σ' : St} {Q : VK} {W : WX} (eB : r.B = B) (R : Rep r) {nd : Bool} {xs : List D} {vs : List V} (h : RVs r xs vs) (g : GV ec r σ Q W (biD bi nd xs r.ns)) : CM X (biV bi) σ' vs r.H Q := by
  have eK : X.K = r.B.K := by rw [ok.K, eB]
  replace g := g.conv (W' := fun c d _ H => W c d σ H) (σ' := σ') (fun _ _ _ h => h)
  cases bi with
  | repr => exact repr_cm R eK hgd ok.room hsys h g
  | str => exact str_cm R h g
  | int => exact int_cm R h g
  | sorted =>
    match xs with
    | [x] =>
      obtain ⟨v, rfl, hv⟩ := RVs.single h
      simp only [biD] at g
      obtain ⟨bs, hx, g⟩ := Good.of g
      obtain ⟨ys, hy, hb⟩ := Option.bind_eq_some_iff.mp hx
      obtain ⟨a, ws, rfl, p, q⟩ := seqV_inv R hy hv
      obtain ⟨e, ho⟩ := strs_inv q hb
      by_cases hc : bs.length ≤ 60 ∧ srtL bs = true
      · rw [if_pos hc] at g
        have l64 : (bs.map SX.S).length < 64 := by
          rw [List.length_map]
          have := hc.1
          omega
        rw [e] at p
        have fin : ∀ (us : List Str) (l : Addr), us.Perm (bs.map SX.S) → sortedS us = true → r.H l = none → Q (.ref l) (upd r.H l (.lst (us.map V.str))) := fun us l h1 h2 hl => by
          rw [srt_uniq hc.2 h1 h2]
          exact mk_lstOf R (rvs_strs ho) g hl
        rcases p with p | p
        · exact CM.of cr_sortedS ⟨a, bs.map SX.S, rfl, by rw [eK]; exact p, l64, fin⟩
        · exact CM.of cr_sortedTS ⟨a, bs.map SX.S, rfl, by rw [eK]; exact p, l64, fin⟩
      · rw [if_neg hc] at g
        exact False.elim g
    | [] => exact False.elim g
    | _ :: _ :: _ => exact False.elim g
  | len =>
    match xs with
    | [x] =>
      obtain ⟨v, rfl, hv⟩ := RVs.single h
      exact len_ok ok eB R hv g
    | [] => exact False.elim g
    | _ :: _ :: _ => exact False.elim g
  | tuple =>
    match xs with
    | [x] =>
      obtain ⟨v, rfl, hv⟩ := RVs.single h
      simp only [biD] at g
      obtain ⟨ys, hx, g⟩ := Good.of g
      obtain ⟨a, ws, rfl, q, p⟩ := tupV_inv R hx hv
      refine CM.of call_tuple_of ⟨a, ws, rfl, ?_⟩
      rcases p with p | ⟨rfl, p⟩
      · refine .inl ⟨eK ▸ p, fun l hl => ?_⟩
        obtain ⟨e, R', q'⟩ := new_tup R hl q
        exact g { r with H := upd r.H l (.tup ws) } (.ref l) rfl e R' q'
      · exact .inr ⟨eK ▸ p, done R g hv⟩
    | [] => exact False.elim g
    | _ :: _ :: _ => exact False.elim g
  | list =>
    match xs with
    | [x] =>
      obtain ⟨v, rfl, hv⟩ := RVs.single h
      simp only [biD] at g
      obtain ⟨ys, hx, g⟩ := Good.of g
      obtain ⟨a, ws, rfl, p, q⟩ := seqV_inv R hx hv
      exact CM.of call_list_of ⟨a, ws, rfl, by rw [eK]; exact p, fun l hl => mk_lstOf R q g hl⟩
    | [] => exact False.elim g
    | _ :: _ :: _ => exact False.elim g
  | all =>
    have hc : X.calm = true := hc0.elim (fun z => by cases z) id
    match xs with
    | [x] =>
      obtain ⟨v, rfl, hv⟩ := RVs.single h
      simp only [biD] at g
      obtain ⟨bs, hx, g⟩ := Good.of g
      obtain ⟨ys, hy, hb⟩ := Option.bind_eq_some_iff.mp hx
      obtain ⟨a, ws, rfl, p, q⟩ := lstV_inv R hy hv
      rw [bools_inv q hb] at p
      exact CM.of (cr_all hc) ⟨a, bs, rfl, SqL.of p, done R g (mk_bl _)⟩
    | [] => exact False.elim g
    | _ :: _ :: _ => exact False.elim g
  | any =>
    have hc : X.calm = true := hc0.elim (fun z => by cases z) id
    match xs with
    | [x] =>
      obtain ⟨v, rfl, hv⟩ := RVs.single h
      simp only [biD] at g
      obtain ⟨bs, hx, g⟩ := Good.of g
      obtain ⟨ys, hy, hb⟩ := Option.bind_eq_some_iff.mp hx
      obtain ⟨a, ws, rfl, p, q⟩ := lstV_inv R hy hv
      rw [bools_inv q hb] at p
      exact CM.of (cr_any hc) ⟨a, bs, rfl, SqL.of p, done R g (mk_bl _)⟩
    | [] => exact False.elim g
    | _ :: _ :: _ => exact False.elim g
  | sum =>
    have hc : X.calm = true := hc0.elim (fun z => by cases z) id
    match xs with
    | [x] =>
      obtain ⟨v, rfl, hv⟩ := RVs.single h
      simp only [biD] at g
      obtain ⟨bs, hx, g⟩ := Good.of g
      obtain ⟨ys, hy, hb⟩ := Option.bind_eq_some_iff.mp hx
      obtain ⟨a, ws, rfl, p, q⟩ := lstV_inv R hy hv
      rw [ints_inv q hb] at p
      exact CM.of (cr_sum hc) ⟨a, bs, rfl, SqL.of p, done R g (mk_int _)⟩
    | [] => exact False.elim g
    | _ :: _ :: _ => exact False.elim g
  | max =>
    have hc : X.calm = true := hc0.elim (fun z => by cases z) id
    have hx : (∃ i j, xs = [.int i, .int j]) ∨ ∃ i j k, xs = [.int i, .int j, .int k] := by
      clear h
      rcases xs with _ | ⟨x, _ | ⟨y, _ | ⟨z, _ | ⟨u, zs⟩⟩⟩⟩
      · exact False.elim g
      · cases x <;> exact False.elim g
      · cases x <;> cases y <;> first | exact False.elim g | exact .inl ⟨_, _, rfl⟩
      · cases x <;> cases y <;> cases z <;> first | exact False.elim g | exact .inr ⟨_, _, _, rfl⟩
      · cases x <;> cases y <;> cases z <;> exact False.elim g
    rcases hx with ⟨i, j, rfl⟩ | ⟨i, j, k, rfl⟩
    · obtain ⟨v, w, rfl, h1, h2⟩ := RVs.two h
      rw [rv_int h1, rv_int h2]
      exact CM.of (call_max2 hc) ⟨i, j, rfl, done R g (mk_int _)⟩
    · obtain ⟨v, ws, rfl, h1, h2⟩ := RVs.inv h
      obtain ⟨w, u, rfl, h2, h3⟩ := RVs.two h2
      rw [rv_int h1, rv_int h2, rv_int h3]
      refine CM.of (call_max3Nu hc) ⟨_, _, _, .int (let m := if j > i then j else i; if k > m then k else m), rfl, ?_, done R g (mk_int _)⟩
      show (nuMax2 (.int i) (.int j)).bind (fun m => nuMax2 m (.int k)) = _
      have e : ∀ a b : Int, nuMax2 (.int a) (.int b) = some (.int (if b > a then b else a)) := fun a b => by
        show some (if decide (a < b) = true then V.int b else V.int a) = _
        by_cases h : a < b
        · simp [h]
        · simp [h]
      rw [e]
      exact e _ _
  | min =>
    have hc : X.calm = true := hc0.elim (fun z => by cases z) id
    have hx : (∃ x, xs = [x]) ∨ (∃ i j, xs = [.int i, .int j]) ∨ ∃ i j k, xs = [.int i, .int j, .int k] := by
      clear h
      rcases xs with _ | ⟨x, _ | ⟨y, _ | ⟨z, _ | ⟨u, zs⟩⟩⟩⟩
      · exact False.elim g
      · exact .inl ⟨_, rfl⟩
      · cases x <;> cases y <;> first | exact False.elim g | exact .inr (.inl ⟨_, _, rfl⟩)
      · cases x <;> cases y <;> cases z <;> first | exact False.elim g | exact .inr (.inr ⟨_, _, _, rfl⟩)
      · cases x <;> cases y <;> cases z <;> exact False.elim g
    rcases hx with ⟨x, rfl⟩ | ⟨i, j, rfl⟩ | ⟨i, j, k, rfl⟩
    · obtain ⟨v, rfl, hv⟩ := RVs.single h
      simp only [biD] at g
      obtain ⟨bs, hx, g⟩ := Good.of g
      obtain ⟨m, hm, g⟩ := Good.of g
      obtain ⟨ys, hy, hb⟩ := Option.bind_eq_some_iff.mp hx
      obtain ⟨a, ws, rfl, p, q⟩ := lstV_inv R hy hv
      rw [ints_inv q hb] at p
      obtain ⟨m1, m2⟩ := minI_ok hm
      refine CM.of (cr_min hc) ⟨a, bs, rfl, SqL.of p, List.length_pos_iff.mpr (List.ne_nil_of_mem m1), fun m' h1 h2 => ?_⟩
      have e : m' = m := Int.le_antisymm (h2 m m1) (m2 m' h1)
      rw [e]
      exact done R g (mk_int _)
    · obtain ⟨v, w, rfl, h1, h2⟩ := RVs.two h
      rw [rv_int h1, rv_int h2]
      exact CM.of (call_min2 hc) ⟨i, j, rfl, done R g (mk_int _)⟩
    · obtain ⟨v, ws, rfl, h1, h2⟩ := RVs.inv h
      obtain ⟨w, u, rfl, h2, h3⟩ := RVs.two h2
      rw [rv_int h1, rv_int h2, rv_int h3]
      refine CM.of (call_min3Nu hc) ⟨_, _, _, .int (let m := if j < i then j else i; if k < m then k else m), rfl, ?_, done R g (mk_int _)⟩
      show (nuMin2 (.int i) (.int j)).bind (fun m => nuMin2 m (.int k)) = _
      have e : ∀ a b : Int, nuMin2 (.int a) (.int b) = some (.int (if b < a then b else a)) := fun a b => by
        show some (if decide (b < a) = true then V.int b else V.int a) = _
        by_cases h : b < a
        · simp [h]
        · simp [h]
      rw [e]
      exact e _ _
theorem bi_boot {x : Str} {bi : BI} (h : bi? x = some bi) : bootBuiltins x = some (biV bi) ∧ x ≠ "__name__" ∧ (x == ("__debug__" : Str)) = false ∧ biN x = true := by
  unfold bi? at h
  repeat' split at h
  all_goals first | cases h | skip
  all_goals subst_vars
  all_goals exact ⟨by decide +kernel, by decide, by decide, by decide +kernel⟩
theorem snd_bi (g0 : XG cf G C ec k B N sc X) {x : Str} {bi : BI} {nd : Bool} (hx : glo? sc x = true) (hf : ixOf cf.fns x = none) (hf2 : ixOf cf.exs x = none) (hb : bi? x = some bi) (hc : (cf.calm || biCalm bi) = true) (he : starEach (e :: es) X.env = (false, eval e X.env) :: starEach es X.env)
    (hp : (backTo pos (starEach es X.env)).any (·.1) = false) (ha : SndA G C ec B X (e :: es) ms) : SndE G C ec B X (.Call (.Name x p) (e :: es) [] pos) (.bi bi ms nd) := by
  intro W tk σ r sl Q eB R S g
  simp only [evE] at g
  obtain ⟨h1, h2, h3, h4⟩ := bi_boot hb
  have hm := g0.wf.bi x h4 hf hf2
  have hcm : biCalm bi = true ∨ X.calm = true := by
    rcases Bool.or_eq_true_iff.mp hc with hc | hc
    · exact .inr (g0.calm hc).1
    · exact .inl hc
  have key : AM X (e :: es) σ r.H fun vs H1 => ∀ σ', CM X (biV bi) σ' vs H1 Q := ha tk eB R S (g.step fun xs h1 r1 vs _ n1 e1 R1 q1 g1 => by
    subst n1
    exact fun σ' => bi_ok g0.ok g0.gd g0.wf.sys hcm (e1.B.trans eB) R1 q1 g1)
  have cr : CallR X (biV bi) (fun xs H Q => ∀ σ, CM X (biV bi) σ xs H Q) := fun pins s σ H xs us Q I rv h => h σ pins s us I rv
  cases bi with
  | len => exact TM.of (pe_callB (id := "len") cr (glo_gl g0 hx) hm h1 pa_am h2 h3 he hp) key
  | tuple => exact TM.of (pe_callTy (T := "tuple") cr (glo_gl g0 hx) hm h1 pa_am h2 h3 he hp) key
  | list => exact TM.of (pe_callTy (T := "list") cr (glo_gl g0 hx) hm h1 pa_am h2 h3 he hp) key
  | all => exact TM.of (pe_callB (id := "all") cr (glo_gl g0 hx) hm h1 pa_am h2 h3 he hp) key
  | any => exact TM.of (pe_callB (id := "any") cr (glo_gl g0 hx) hm h1 pa_am h2 h3 he hp) key
  | sum => exact TM.of (pe_callB (id := "sum") cr (glo_gl g0 hx) hm h1 pa_am h2 h3 he hp) key
  | max => exact TM.of (pe_callB (id := "max") cr (glo_gl g0 hx) hm h1 pa_am h2 h3 he hp) key
  | min => exact TM.of (pe_callB (id := "min") cr (glo_gl g0 hx) hm h1 pa_am h2 h3 he hp) key
  | repr => exact TM.of (pe_callB (id := "repr") cr (glo_gl g0 hx) hm h1 pa_am h2 h3 he hp) key
  | str => exact TM.of (pe_callTy (T := "str") cr (glo_gl g0 hx) hm h1 pa_am h2 h3 he hp) key
  | int => exact TM.of (pe_callTy (T := "int") cr (glo_gl g0 hx) hm h1 pa_am h2 h3 he hp) key
  | sorted => exact TM.of (pe_callB (id := "sorted") cr (glo_gl g0 hx) hm h1 pa_am h2 h3 he hp) key
end
end L2.MP
namespace L2.MP
open PySem PySem.Spec PyProof.Rows
section
variable {cf : Cf} {G : Gl} {C : Nat → List D → Hs → MP.R D} {ec : EC} {k n : Nat} {B : RB} {N : List Str} {sc : Scope} {X : Cx} {e a b c : Expr} {es : List Expr} {m ma mb mc mo : E} {ms : List E} {pos p2 p : Pos}
def tyVal (ec : EC) : Ty → Value
  | .int => .type "int" | .bool => .type "bool" | .str => .type "str" | .tuple => .type "tuple" | .list => .type "list" | .dict => .type "dict"
  | .own c => ec c | .err n => .type n
/-- classes that the translator lets through -/
def tyOk (cf : Cf) : Ty → Prop
  | .own c => ∃ x, cf.exs[c]? = some x
  | .err n => n = "ValueError" ∨ n = "KeyError" ∨ n = "OverflowError"
  | _ => True
theorem kit_D (g0 : XG cf G C ec k B N sc X) {r : RC} {σ : St} {pins : List (Addr × Obj)} {s : Shared} (eB : r.B = B) (R : Rep r) {x : D} {v : V} {u : Value} (h : RV r x v) (rv : RelV v u) (I : Inv X pins σ r.H s) {t0 : Ty} {b0 : Bool} (ht : isTy G r.ns x t0 = some b0) :
    ∃ (P : Heap → Prop) (t' : Value), PySem.W.KitX X.K u t' P ∧ P s.heap ∧ u ≠ .builtin "__main__.__loader__#opaque" ∧ ∀ t b, tyOk cf t → isTy G r.ns x t = some b → PySem.W.kitOne X.K t' (tyVal ec t) = some b := by
  have eK : X.K = r.B.K := by rw [g0.eK, eB]
  cases x with
  | non =>
    rw [rv_non h] at rv
    obtain ⟨P, Z, p, hx⟩ := kit_of I rv (.base .non)
    refine ⟨P, _, Z, p, hx, fun t b _ e => ?_⟩
    cases t <;> simp only [isTy, Option.some.injEq] at e <;> first | cases e | skip
    all_goals exact kit_ty (by decide +kernel)
  | bl y =>
    rw [rv_bl h] at rv
    obtain ⟨P, Z, p, hx⟩ := kit_of I rv (.base (.bl _))
    refine ⟨P, _, Z, p, hx, fun t b _ e => ?_⟩
    cases t <;> simp only [isTy, Option.some.injEq] at e <;> first | cases e | skip
    all_goals exact kit_ty (by decide +kernel)
  | int y =>
    rw [rv_int h] at rv
    obtain ⟨P, Z, p, hx⟩ := kit_of I rv (.base (.int _))
    refine ⟨P, _, Z, p, hx, fun t b _ e => ?_⟩
    cases t <;> simp only [isTy, Option.some.injEq] at e <;> first | cases e | skip
    all_goals exact kit_ty (by decide +kernel)
  | str y =>
    rw [(rv_str h).1] at rv
    obtain ⟨P, Z, p, hx⟩ := kit_of I rv (.base (.str _))
    refine ⟨P, _, Z, p, hx, fun t b _ e => ?_⟩
    cases t <;> simp only [isTy, Option.some.injEq] at e <;> first | cases e | skip
    all_goals exact kit_ty (by decide +kernel)
  | tup xs =>
    obtain ⟨ad, vs, rfl, h1, _⟩ := tup_inv h
    have ty : TyX X.K r.H (.ref ad) (.type "tuple") := by
      rcases h1 with (h1 | ⟨o, h1⟩) | ⟨o, _, _, h1, h2, _⟩
      · exact .base (.tup h1)
      · exact .fTuple h1
      · exact .kTuple (by rw [eK]; exact h1) h2
    obtain ⟨P, Z, p, hx⟩ := kit_of I rv ty
    refine ⟨P, _, Z, p, hx, fun t b _ e => ?_⟩
    cases t <;> simp only [isTy, Option.some.injEq] at e <;> first | cases e | skip
    all_goals exact kit_ty (by decide +kernel)
  | lst xs =>
    obtain ⟨ad, vs, rfl, h1, _⟩ := lstV_inv (d := .lst xs) R rfl h
    obtain ⟨P, Z, p, hx⟩ := kit_of I rv (.base (.lst h1))
    refine ⟨P, _, Z, p, hx, fun t b _ e => ?_⟩
    cases t <;> simp only [isTy, Option.some.injEq] at e <;> first | cases e | skip
    all_goals exact kit_ty (by decide +kernel)
  | ref i =>
    have hl := h
    simp only [RV] at hl
    obtain ⟨hi, rfl⟩ := hl
    obtain ⟨nd, hnd⟩ : ∃ nd, r.ns[i]? = some nd := ⟨_, List.getElem?_eq_getElem hi⟩
    cases nd with
    | lst ys =>
      obtain ⟨vs, h1, _⟩ := (R.nod i _ hnd).lst
      obtain ⟨P, Z, p, hx⟩ := kit_of I rv (.base (.lst h1))
      refine ⟨P, _, Z, p, hx, fun t b _ e => ?_⟩
      cases t <;> simp only [isTy, hnd, Option.bind_some, seqN, Option.map_some, Option.some.injEq] at e <;> first | cases e | skip
      all_goals exact kit_ty (by decide +kernel)
    | _ => cases t0 <;> simp [isTy, hnd, seqN] at ht
  | dic ks vs =>
    simp only [RV] at h
    obtain ⟨ad, rfl, h1, _⟩ := h
    obtain ⟨P, Z, p, hx⟩ := kit_of I rv (.base (.dK h1))
    refine ⟨P, _, Z, p, hx, fun t b _ e => ?_⟩
    cases t <;> simp only [isTy, Option.some.injEq] at e <;> first | cases e | skip
    all_goals exact kit_ty (by decide +kernel)
  | scr ns => cases t0 <;> simp [isTy] at ht
  | kup ns => cases t0 <;> simp [isTy] at ht
  | exn c fs =>
    have hty : ∀ t b, isTy G r.ns (.exn c fs) t = some b → (∃ c', t = .own c' ∧ b = (c == c')) ∨ ∃ nm q, t = .err nm ∧ G.exb[c]? = some q ∧ b = (q == nm) := fun t b e => by
      cases t <;> simp only [isTy] at e <;> first | (cases e; done) | skip
      · exact .inl ⟨_, rfl, (Option.some.inj e).symm⟩
      · obtain ⟨q, hq, rfl⟩ := Option.map_eq_some_iff.mp e
        exact .inr ⟨_, q, rfl, hq, rfl⟩
    simp only [RV] at h
    obtain ⟨ad, d, rfl, h1, h2⟩ := h
    obtain ⟨oe, vs, hm, hv, hz, x, hx⟩ := g0.xa ad c d (by rw [← eB]; exact h1)
    obtain rfl : u = Value.ref ad := rv
    obtain ⟨hget, _⟩ := I.pin (ad, oe) (List.mem_append.mpr (.inl hm))
    obtain ⟨_, Ca, _, eC⟩ := g0.wf.exc c x hx
    obtain ⟨k1, k2, k3⟩ := g0.wf.exk c x hx
    have EC := k1 Ca eC
    rw [eC] at hz
    have hcl : (PySem.W.clsIn X.K Ca).isSome = true := by
      obtain ⟨cdD, hcD, _⟩ := PySem.W.any_some EC.hd
      rw [hcD]
      rfl
    have J : ∃ od, PySem.W.InstAt s.heap ad oe Ca od := by
      rcases h2 with ⟨rfl, _⟩ | ⟨dx, ws, rfl, _, h3, _, _⟩
      · refine ⟨none, ?_⟩
        obtain ⟨oc, od, oda, osl⟩ := oe
        obtain ⟨h1, h2⟩ := hz
        dsimp only at h1 h2 hv
        subst h1 h2 hv
        exact ⟨hget, rfl, rfl, trivial⟩
      · have hxo : ObjOk X.prog X.w r.H s.heap dx (.xd ((r.B.fl c).zip ws).reverse) := I.hok dx _ h3
        obtain ⟨mA, hns, _⟩ := hxo
        obtain ⟨od, ho, _⟩ := lookIn_ns hns
        exact ⟨some od, hget, hz.1, by unfold PySem.W.notCls; rw [hv] <;> rfl, by rw [hz.2]; exact ho⟩
    obtain ⟨od, J⟩ := J
    refine ⟨_, _, PySem.W.kitx_exc hcl EC.hg EC.hk EC.hs EC.ha EC.hn EC.ht EC.hm, J, (fun z => nomatch z), fun t b tk e => ?_⟩
    rw [← eC]
    rcases hty t b e with ⟨c', rfl, rfl⟩ | ⟨nm, q, rfl, hq, rfl⟩
    · obtain ⟨x', hx'⟩ := tk
      exact k2 c' x' hx'
    · exact k3 nm q tk hq
theorem kitAny_of {K : PySem.W.Frag} {t' : Value} {r : RC} {x : D} (hk : ∀ t b, tyOk cf t → isTy G r.ns x t = some b → PySem.W.kitOne K t' (tyVal ec t) = some b) : ∀ {ts : List Ty} {b : Bool}, (∀ t ∈ ts, tyOk cf t) → isTys G r.ns x ts = some b → PySem.W.kitAny K t' (ts.map (tyVal ec)) = some b
  | [], b, _, e => by
    simp only [isTys, Option.some.injEq] at e
    subst e
    exact kitAny_nil
  | t :: ts, b, ho, e => by
    simp only [isTys] at e
    obtain ⟨b1, e1, e2⟩ := of_bind e
    refine kitAny_cons (hk t b1 (ho t List.mem_cons_self) e1) (fun z => ?_) (fun z => ?_)
    · subst z
      exact kitAny_of hk (fun t h => ho t (List.mem_cons_of_mem _ h)) e2
    · subst z
      cases e2; rfl
theorem isi_one (g0 : XG cf G C ec k B N sc X) {r : RC} {σ : St} {Q : VK} (eB : r.B = B) (R : Rep r) {x : D} {v cv : V} {t : Ty} {b : Bool} (h : RV r x v) (hc : ClsV cv (tyVal ec t)) (ho : tyOk cf t) (e : isTys G r.ns x [t] = some b) (q : Q (.bl b) r.H) : CM X (.builtin "isinstance") σ [v, cv] r.H Q := by
  intro pins s us I rv
  obtain ⟨u1, u2, rfl, r1, r2⟩ := vals2 rv
  have e2 := hc.eq r2
  subst e2
  have e1 : isTy G r.ns x t = some b := by
    simp only [isTys] at e
    obtain ⟨b1, e1, e2⟩ := of_bind e
    rw [e1]
    cases b1 <;> exact e2
  obtain ⟨P, t', Z, p, hx, hk⟩ := kit_D g0 eB R h r1 I e1
  exact PySem.W.kia_one Z I.kIn p (hk t b ho e1) hx fun tk => ⟨.bl b, r.H, I.tok tk, rfl, q⟩
theorem isi_tup (g0 : XG cf G C ec k B N sc X) {r : RC} {σ : St} {Q : VK} (eB : r.B = B) (R : Rep r) {x : D} {v : V} {tp : Addr} {cs : List V} {t0 : Ty} {ts : List Ty} {b : Bool} (h : RV r x v) (hT : r.H tp = some (.tup cs)) (hc : Paired ClsV cs ((t0 :: ts).map (tyVal ec))) (ho : ∀ t ∈ t0 :: ts, tyOk cf t) (e : isTys G r.ns x (t0 :: ts) = some b) (q : Q (.bl b) r.H) : CM X (.builtin "isinstance") σ [v, .ref tp] r.H Q := by
  intro pins s us I rv
  obtain ⟨u1, u2, rfl, r1, r2⟩ := vals2 rv
  obtain rfl : u2 = Value.ref tp := r2
  obtain ⟨b1, e1, _⟩ := of_bind (show (isTy G r.ns x t0).bind _ = some b from e)
  obtain ⟨P, t', Z, p, hx, hk⟩ := kit_D g0 eB R h r1 I e1
  obtain ⟨_, its, rv2, o, h1, h2, n, h3⟩ := (show ObjOk X.prog X.w r.H s.heap tp (.tup cs) from I.hok tp _ hT)
  have e3 := ClsV.all hc rv2
  subst e3
  obtain ⟨oc, od, dt, sl⟩ := o
  simp only at h2 h3
  subst h2 h3
  exact PySem.W.kia_tup Z I.kIn p h1 (kitAny_of hk ho e) hx fun tk => ⟨.bl b, r.H, I.tok tk, rfl, q⟩
theorem cls_tm (g0 : XG cf G C ec k B N sc X) {x : Str} {t : Ty} (hf : ixOf cf.fns x = none) (h : ty? cf sc x = some t) : tyOk cf t ∧ ∃ v, PE X (.Name x p) (tC v) ∧ ClsV v (tyVal ec t) := by
  unfold ty? at h
  split at h
  · rename_i hg
    have gl := glo_gl g0 hg
    split at h
    · rename_i c hc
      cases h
      obtain ⟨hd, a, h1, h2⟩ := g0.wf.exc c x (ixOf_get hc)
      refine ⟨⟨x, ixOf_get hc⟩, .ref a, pe_glob gl h1 rfl hd, ?_⟩
      show ClsV _ (ec c)
      rw [h2]
      exact .own a
    · rename_i hx
      repeat' split at h
      all_goals first | cases h | skip
      all_goals subst_vars
      all_goals refine ⟨by first | exact True.intro | exact .inl rfl | exact .inr (.inl rfl) | exact .inr (.inr rfl), .ty _, pe_bltn gl (g0.wf.bi _ (by decide +kernel) hf hx) (by decide +kernel) rfl, .ty _⟩
  · cases h
end
end L2.MP
namespace L2.MP
open PySem PySem.Spec PyProof.Rows
section
variable {cf : Cf} {G : Gl} {C : Nat → List D → Hs → MP.R D} {ec : EC} {k n : Nat} {B : RB} {N : List Str} {sc : Scope} {X : Cx} {e a b c : Expr} {es : List Expr} {m ma mb mc mo : E} {ms : List E} {pos p2 p p3 : Pos}
theorem isi_cr : CallR X (.builtin "isinstance") (fun xs H Q => ∀ σ, CM X (.builtin "isinstance") σ xs H Q) := fun pins s σ H xs us Q I rv h => h σ pins s us I rv
theorem isi_hm (g0 : XG cf G C ec k B N sc X) (hf : ixOf cf.fns "isinstance" = none) (hx : ixOf cf.exs "isinstance" = none) : X.mg "isinstance" = none := g0.wf.bi _ (by decide +kernel) hf hx
theorem snd_isi1 (g0 : XG cf G C ec k B N sc X) {x : Str} {t : Ty} (hg : glo? sc "isinstance" = true) (hf : ixOf cf.fns "isinstance" = none) (hxx : ixOf cf.exs "isinstance" = none) (hfx : ixOf cf.fns x = none) (ht : ty? cf sc x = some t)
    (he : starEach (a :: [Expr.Name x p2]) X.env = (false, eval a X.env) :: starEach [Expr.Name x p2] X.env) (ha : SndE G C ec B X a ma) : SndE G C ec B X (.Call (.Name "isinstance" p) [a, .Name x p2] [] pos) (.isi ma [t]) := by
  intro W tk σ r sl Q eB R S g
  simp only [evE] at g
  obtain ⟨ho, cv, h1, h2⟩ := cls_tm g0 (p := p2) hfx ht
  refine TM.of (pe_callB isi_cr (glo_gl g0 hg) (isi_hm g0 hf hxx) (by decide +kernel) (pa_cons pe_tm (pa_cons h1 pa_nil (by rfl)) he) (by decide) (by decide) he (by rfl)) (ha tk eB R S (g.step fun y h1 r1 v1 _ n1 e1 R1 q1 g1 => ?_))
  subst n1
  obtain ⟨b, hb, g1⟩ := Good.of g1
  intro σ'
  exact isi_one g0 (e1.B.trans eB) R1 q1 h2 ho hb (g1.okI R1 (mk_bl _))
theorem cls_tms (g0 : XG cf G C ec k B N sc X) : ∀ {es : List Expr} {ts : List Ty}, (∀ x q, Expr.Name x q ∈ es → ixOf cf.fns x = none) → tys? cf sc es = some ts → (∀ t ∈ ts, tyOk cf t) ∧ ∃ (vs : List V) (tt : TA), PA X es tt ∧ Paired ClsV vs (ts.map (tyVal ec)) ∧ (∀ σ H Q, Q vs H → tt σ H Q) ∧ vs.length = es.length
  | [], ts, _, h => by
    simp only [tys?, Option.some.injEq] at h
    subst h
    exact ⟨(fun t ht => nomatch ht), [], tNil, pa_nil, .nil, fun _ _ _ q => q, rfl⟩
  | .Name x q :: es, ts, hn, h => by
    simp only [tys?] at h
    obtain ⟨t, h1, h⟩ := of_bind h
    obtain ⟨ts', h2, h⟩ := of_bind h
    cases h
    obtain ⟨ho, v, c1, c2⟩ := cls_tm g0 (p := q) (hn x q List.mem_cons_self) h1
    obtain ⟨hos, vs, tt, p1, p2, p3, p4⟩ := cls_tms g0 (fun x q hm => hn x q (List.mem_cons_of_mem _ hm)) h2
    refine ⟨fun t ht => ?_, v :: vs, _, pa_cons c1 p1 (by rfl), .cons c2 p2, fun σ H Q q => p3 σ H _ q, by simp [p4]⟩
    rcases List.mem_cons.mp ht with rfl | ht
    · exact ho
    · exact hos t ht
theorem snd_isiT (g0 : XG cf G C ec k B N sc X) {cs : List Expr} {t0 : Ty} {ts : List Ty} {k1 : Nat} (hl : cs.length ≤ 1000) (hg : glo? sc "isinstance" = true) (hf : ixOf cf.fns "isinstance" = none) (hxx : ixOf cf.exs "isinstance" = none) (hfx : ∀ x q, Expr.Name x q ∈ cs → ixOf cf.fns x = none) (ht : tys? cf sc cs = some (t0 :: ts))
    (he : starEach (a :: [Expr.Tuple cs k1 p2]) X.env = (false, eval a X.env) :: starEach [Expr.Tuple cs k1 p2] X.env) (ha : SndE G C ec B X a ma) : SndE G C ec B X (.Call (.Name "isinstance" p) [a, .Tuple cs k1 p2] [] pos) (.isi ma (t0 :: ts)) := by
  intro W tk σ r sl Q eB R S g
  simp only [evE] at g
  obtain ⟨ho, vs, tt, h1, h2, h3, h4⟩ := cls_tms g0 hfx ht
  refine TM.of (pe_callB isi_cr (glo_gl g0 hg) (isi_hm g0 hf hxx) (by decide +kernel) (pa_cons pe_tm (pa_cons (pe_tup h1) pa_nil (by rfl)) he) (by decide) (by decide) he (by rfl)) (ha tk eB R S (g.step fun y h1 r1 v1 _ n1 e1 R1 q1 g1 => ?_))
  subst n1
  obtain ⟨b, hb, g1⟩ := Good.of g1
  refine h3 _ _ _ ⟨by rw [h4]; exact Nat.le_trans hl (by decide), fun tp hp σ' => ?_⟩
  obtain ⟨e, R'⟩ := R1.alloc (o := .tup vs) hp
  exact isi_tup (r := { r1 with H := upd r1.H tp (.tup vs) }) g0 (e1.B.trans eB) R' (RV.ext R1 e q1) upd_same h2 ho hb (g1 { r1 with H := upd r1.H tp (.tup vs) } (.bl b) rfl e R' (mk_bl _))
theorem snd_mt_of {T id : String} {name : Str} {mm : MT} {q : V → List V → Hp → VK → Prop} (pa : PlainAttrs T) (slot : Slot T name id) (hty : typeOf (.builtin id) = pure (.type "method_descriptor")) (hm : MtR X id q)
    (h1 : ∀ (r : RC) (x : D) (v : V), r.B = B → Rep r → RV r x v → mtTy r.ns mm x = true → tyV X.K T v r.H)
    (h2 : ∀ (r : RC) (x : D) (v : V) (xs : List D) (vs : List V) (σ : St) (Q : VK) (W : WX), r.B = B → Rep r → RV r x v → RVs r xs vs → (∃ h0, mtTy h0 mm x = true) → GV ec r σ Q W (mtD mm x xs r.ns) → q v vs r.H Q)
    (hb : attributeBase a name X.env (eval a X.env) = eval a X.env) (hf : ((((List.all (backTo pos (starEach (e :: es) X.env)) fun x => !Prod.fst x) && List.all (backToKw pos (keywordEach [] X.env)) fun x => Option.isSome (Prod.fst x)) &&
      decide ((List.length (e :: es) + List.length ([] : List Keyword) + if List.isEmpty ([] : List Keyword) = true then 0 else 1) < 30)) = true)) (hl : (Pos.endLine p == Pos.line pos) = true)
    (he : starEach (e :: es) X.env = (false, eval e X.env) :: starEach es X.env) (hp : (backTo pos (starEach es X.env)).any (·.1) = false) (ha : SndE G C ec B X a ma) (hs : SndA G C ec B X (e :: es) ms) :
    SndE G C ec B X (.Call (.Attribute a name p) (e :: es) [] pos) (.mt mm ma ms) := by
  intro W tk σ r sl Q eB R S g
  simp only [evE] at g
  refine TM.of (pe_bm pa slot hty hm pe_tm pa_am hb hf hl he hp) (ha tk eB R S (g.step fun x h1' r1 v1 _ n1 e1 R1 q1 g1 => ?_))
  subst n1
  obtain ⟨ht, g1⟩ := Good.ite g1
  refine ⟨h1 r1 x v1 (e1.B.trans eB) R1 q1 ht, hs tk (e1.B.trans eB) R1 (S.ext R e1) (g1.step fun xs h2' r2 vs _ n2 e2 R2 q2 g2 => ?_)⟩
  subst n2
  exact h2 r2 x v1 xs vs σ Q W (e2.B.trans (e1.B.trans eB)) R2 (RV.ext R1 e2 q1) q2 ⟨_, ht⟩ g2
theorem str_ty {r : RC} {x : D} {v : V} (h : RV r x v) {s : List Nat} (e : x = .str s) {K : PySem.W.Frag} : tyV K "str" v r.H := by
  subst e
  rw [(rv_str h).1]
  rfl
theorem part_run {r : RC} {x : D} {v : V} {xs : List D} {vs : List V} {σ : St} {Q : VK} {W : WX} (R : Rep r) (h : RV r x v) (hs : RVs r xs vs) (g : GV ec r σ Q W (mtD .partition x xs r.ns)) :
    ∃ a b, v = .str a ∧ vs = [.str b] ∧ (b.length == 0) = false ∧ a.length ≤ sizeLine ∧ ∀ p, r.H p = none → Q (.ref p) (upd r.H p (.tup [.str (Txt.partition a b).1, .str (Txt.partition a b).2.1, .str (Txt.partition a b).2.2])) := by
  have hx : ∃ s c, x = .str s ∧ xs = [.str [c]] := by
    clear h hs
    cases x <;> first | exact False.elim g | skip
    rcases xs with _ | ⟨y, _ | ⟨z, zs⟩⟩ <;> first | exact False.elim g | skip
    · cases y <;> first | exact False.elim g | skip
      rename_i t
      rcases t with _ | ⟨c, _ | ⟨d, t⟩⟩ <;> first | exact False.elim g | skip
      exact ⟨_, _, rfl, rfl⟩
    · cases y <;> first | exact False.elim g | skip
      rename_i t
      rcases t with _ | ⟨c, _ | ⟨d, t⟩⟩ <;> exact False.elim g
  obtain ⟨s, c, rfl, rfl⟩ := hx
  obtain ⟨w, rfl, hw⟩ := RVs.single hs
  obtain ⟨rfl, o1⟩ := rv_str h
  obtain ⟨rfl, o2⟩ := rv_str hw
  simp only [mtD] at g
  obtain ⟨hz, g⟩ := Good.ite g
  refine ⟨_, _, rfl, rfl, rfl, by rw [len_str]; exact le_line hz, fun p hp => ?_⟩
  have e := part_eq c s []
  cases hps : partS c s with
  | none =>
    rw [hps] at g e
    have ep : Txt.partition (SX.S s) (SX.S [c]) = (SX.S s, SX.S [], SX.S []) := SX.partition_none (by simp) (by simpa using e)
    show Q (.ref p) (upd r.H p (.tup [.str (Txt.partition (SX.S s) (SX.S [c])).1, .str (Txt.partition (SX.S s) (SX.S [c])).2.1, .str (Txt.partition (SX.S s) (SX.S [c])).2.2]))
    rw [ep]
    obtain ⟨e', R', q'⟩ := new_tup R hp (RVs.cons (mk_str o1) (RVs.cons (mk_str (s := []) fun _ z => nomatch z) (RVs.cons (mk_str (s := []) fun _ z => nomatch z) RVs.nil)))
    exact g { r with H := upd r.H p (.tup _) } (.ref p) rfl e' R' q'
  | some ab =>
    obtain ⟨a1, b1⟩ := ab
    rw [hps] at g e
    have ep : Txt.partition (SX.S s) (SX.S [c]) = (SX.S a1, SX.S [c], SX.S b1) := SX.partition_some (by simp) (by simpa using e)
    obtain ⟨k1, k2, _⟩ := ok_part o1 hps
    show Q (.ref p) (upd r.H p (.tup [.str (Txt.partition (SX.S s) (SX.S [c])).1, .str (Txt.partition (SX.S s) (SX.S [c])).2.1, .str (Txt.partition (SX.S s) (SX.S [c])).2.2]))
    rw [ep]
    obtain ⟨e', R', q'⟩ := new_tup R hp (RVs.cons (mk_str k1) (RVs.cons (mk_str o2) (RVs.cons (mk_str k2) RVs.nil)))
    exact g { r with H := upd r.H p (.tup _) } (.ref p) rfl e' R' q'
theorem app_run {r : RC} {x : D} {v : V} {xs : List D} {vs : List V} {σ : St} {Q : VK} {W : WX} (R : Rep r) (h : RV r x v) (hs : RVs r xs vs) (g : GV ec r σ Q W (mtD .append x xs r.ns)) : rAppend v vs r.H Q := by
  have hx : ∃ i y, x = .ref i ∧ xs = [y] := by
    clear h hs
    cases x <;> first | exact False.elim g | skip
    rcases xs with _ | ⟨y, _ | ⟨z, zs⟩⟩ <;> first | exact False.elim g | skip
    exact ⟨_, _, rfl, rfl⟩
  obtain ⟨i, y, rfl, rfl⟩ := hx
  obtain ⟨w, rfl, hw⟩ := RVs.single hs
  simp only [RV] at h
  obtain ⟨hi, rfl⟩ := h
  simp only [mtD] at g
  split at g
  · rename_i zs hz
    obtain ⟨hl, g⟩ := Good.ite g
    obtain ⟨us, h1, h2⟩ := (R.nod i _ hz).lst
    refine ⟨_, us, w, rfl, rfl, h1, by rw [← h2.length]; exact lt_line hl, ?_⟩
    obtain ⟨e', R'⟩ := R.put (vs := us ++ [w]) hz (h2.append (RVs.cons hw RVs.nil))
    exact g (r.put i (us ++ [w]) (zs ++ [y])) .non rfl e' R' mk_non
  · exact False.elim g
theorem ext_run {r : RC} {x : D} {v : V} {xs : List D} {vs : List V} {σ : St} {Q : VK} {W : WX} (R : Rep r) (h : RV r x v) (hs : RVs r xs vs) (g : GV ec r σ Q W (mtD .extend x xs r.ns)) : rExtend v vs r.H Q := by
  have hx : ∃ i y, x = .ref i ∧ xs = [y] := by
    clear h hs
    cases x <;> first | exact False.elim g | skip
    rcases xs with _ | ⟨y, _ | ⟨z, zs⟩⟩ <;> first | exact False.elim g | skip
    exact ⟨_, _, rfl, rfl⟩
  obtain ⟨i, y, rfl, rfl⟩ := hx
  obtain ⟨w, rfl, hw⟩ := RVs.single hs
  simp only [RV] at h
  obtain ⟨hi, rfl⟩ := h
  simp only [mtD] at g
  split at g
  · rename_i zs hz
    cases hy : lstV r.ns y with
    | none => rw [hy] at g; exact False.elim g
    | some ys =>
      rw [hy] at g
      obtain ⟨hl, g⟩ := Good.ite g
      obtain ⟨us, h1, h2⟩ := (R.nod i _ hz).lst
      obtain ⟨a, ws, rfl, p, q⟩ := lstV_inv R hy hw
      refine ⟨_, _, us, ws, rfl, rfl, h1, p, by rw [← h2.length, ← q.length]; exact Nat.le_of_lt (lt_line hl), ?_⟩
      obtain ⟨e', R'⟩ := R.put (vs := us ++ ws) hz (h2.append q)
      exact g (r.put i (us ++ ws) (zs ++ ys)) .non rfl e' R' mk_non
  · exact False.elim g
end
end L2.MP
namespace L2.MP
open PySem PySem.Spec PyProof.Rows
section
variable {cf : Cf} {G : Gl} {C : Nat → List D → Hs → MP.R D} {ec : EC} {k n : Nat} {B : RB} {N : List Str} {sc : Scope} {X : Cx} {e a b c : Expr} {es : List Expr} {m ma mb mc : E} {ms : List E} {pos p2 p : Pos}
theorem pe_fldX {f : Str} {te : TE} (hb : attributeBase e f X.env (eval e X.env) = eval e X.env) (he : PE X e te) :
    PE X (.Attribute e f pos) (fun σ H Q => te σ H fun x H1 => ∃ (ad Ca dd : Addr) (oe : Obj) (ws : Array Value) (fs : List (Str × V)) (v : V), x = .ref ad ∧ (ad, oe) ∈ X.pn ∧ oe.data = .fields ws ∧ Zc (.ref Ca) (some dd) oe ∧ XfC X.K Ca ∧ PySem.W.findIn X.K (.ref Ca) f = some none ∧
      H1 dd = some (.xd fs) ∧ fs.lookup f = some v ∧ Q v H1) := ⟨fun pins s σ H Q I h => by
  refine attr_of hb (thn (he.run pins s σ H _ I h) ?_)
  rintro u s1 ⟨x, H1, I1, rx, ad, Ca, dd, oe, ws, fs, v, rfl, hm, hd, hz, T, hno, hx, l, q⟩
  cases (show u = Value.ref ad from rx)
  obtain ⟨hget, _⟩ := I1.pin (ad, oe) (List.mem_append_left _ hm)
  obtain ⟨mA, hns, hr⟩ : ObjOk X.prog X.w H1 s1.heap dd (.xd fs) := I1.hok dd _ hx
  obtain ⟨od, ho, hl⟩ := lookIn_ns hns
  have hv := hr f
  rw [l] at hv
  obtain ⟨u, hu, ru⟩ := RelO.some_of hv
  have J : PySem.W.InstAt s1.heap ad oe Ca (some od) := by
    refine ⟨hget, hz.1, ?_, ?_⟩
    · unfold PySem.W.notCls
      rw [hd] <;> rfl
    · rw [hz.2]
      exact ho
  have fo := PySem.W.findObj_own (od := od) T.hdC hno rfl (by rw [hl, hu])
  exact HandSPX.exc_get I1.kIn J T.ga T.gg T.exC fo (handed_of ru) ⟨v, H1, I1.tok _, ru, q⟩⟩
theorem look_mem {α β : Type} [BEq α] [LawfulBEq α] {k : α} {v : β} : ∀ {l : List (α × β)}, l.lookup k = some v → (k, v) ∈ l
  | [], h => by cases h
  | (a, b) :: l, h => by
    rw [List.lookup_cons] at h
    cases e : (k == a) with
    | true =>
      rw [e] at h
      cases h
      rw [beq_iff_eq.mp e]
      exact List.mem_cons_self ..
    | false =>
      rw [e] at h
      exact List.mem_cons_of_mem _ (look_mem h)
theorem mem_look {α β : Type} [BEq α] [LawfulBEq α] {k : α} {v : β} : ∀ {l : List (α × β)}, (l.map Prod.fst).Nodup → (k, v) ∈ l → l.lookup k = some v
  | [], _, h => by simp at h
  | (a, b) :: l, hn, h => by
    rw [List.map_cons, List.nodup_cons] at hn
    rw [List.lookup_cons]
    rcases List.mem_cons.mp h with e | h2
    · cases e
      simp
    · have hne : (k == a) = false := by
        rw [beq_eq_false_iff_ne]
        intro z
        subst z
        exact hn.1 (List.mem_map.mpr ⟨_, h2, rfl⟩)
      rw [hne]
      exact mem_look hn.2 h2
theorem look_rv {r : RC} {f : List Nat} {d : D} : ∀ {ns : List (List Nat)} {ds : List D} {vs : List V}, (ns.zip ds).lookup f = some d → RVs r ds vs → ∃ v, ((ns.map fun n => (⟨n.toArray⟩ : Str)).zip vs).lookup (⟨f.toArray⟩ : Str) = some v ∧ RV r d v
  | [], _, _, h, _ => by simp at h
  | n :: ns, [], _, h, _ => by simp at h
  | n :: ns, x :: ds, vs, h, q => by
    obtain ⟨v, ws, rfl, q1, q2⟩ := RVs.inv q
    simp only [List.zip_cons_cons, List.lookup_cons] at h
    simp only [List.map_cons, List.zip_cons_cons, List.lookup_cons]
    have e : ((⟨f.toArray⟩ : Str) == ⟨n.toArray⟩) = (f == n) := by
      by_cases e : f = n
      · subst e; simp
      · have e2 : (⟨f.toArray⟩ : Str) ≠ ⟨n.toArray⟩ := fun z => e (by have := congrArg (fun s : Str => s.cps.toList) z; simpa using this)
        rw [beq_eq_false_iff_ne.mpr e2, beq_eq_false_iff_ne.mpr e]
    rw [e]
    cases q3 : (f == n) with
    | true =>
      rw [q3] at h
      cases h
      exact ⟨v, rfl, q1⟩
    | false =>
      rw [q3] at h
      exact look_rv h q2
theorem zip_keys {α β : Type} : ∀ {ns : List α} {vs : List β}, vs.length = ns.length → (ns.zip vs).map Prod.fst = ns
  | [], _, _ => by simp
  | n :: ns, [], h => by simp at h
  | n :: ns, v :: vs, h => by simp [zip_keys (ns := ns) (vs := vs) (by simpa using h)]
theorem snd_fld (g0 : XG cf G C ec k B N sc X) {f : Str} (hb : attributeBase a f X.env (eval a X.env) = eval a X.env) (ha : SndE G C ec B X a ma) : SndE G C ec B X (.Attribute a f pos) (.fld ma f.cps.toList) := by
  intro W tk σ r sl Q eB R S g
  simp only [evE] at g
  refine TM.of (pe_fldX hb pe_tm) (ha tk eB R S (g.step fun x h1 r1 v _ n1 e1 R1 q1 g1 => ?_))
  subst n1
  cases x <;> first | exact False.elim g1 | skip
  rename_i c fs heq
  have g1' : GV ec r1 σ Q W (MP.R.of ((G.fls[c]?).bind fun ns => (ns.zip fs).lookup f.cps.toList) r1.ns) := g1
  obtain ⟨d, hd, g2⟩ : ∃ d, ((G.fls[c]?).bind fun ns => (ns.zip fs).lookup f.cps.toList) = some d ∧ GV ec r1 σ Q W (.ok d r1.ns) := by
    cases e : ((G.fls[c]?).bind fun ns => (ns.zip fs).lookup f.cps.toList) with
    | none =>
      rw [e] at g1'
      exact False.elim g1'
    | some d =>
      rw [e] at g1'
      exact ⟨d, rfl, g1'⟩
  obtain ⟨ns, hns, hl⟩ := Option.bind_eq_some_iff.mp hd
  simp only [RV] at q1
  obtain ⟨ad, dx, rfl, h1, h2⟩ := q1
  obtain ⟨oe, ws, hm, hv, hz, x, hx⟩ := g0.xa ad c dx (by rw [← eB, ← e1.B]; exact h1)
  obtain ⟨_, Ca, _, eC⟩ := g0.wf.exc c x hx
  obtain ⟨k1, _, _⟩ := g0.wf.exk c x hx
  have EC := k1 Ca eC
  rw [eC] at hz
  rcases h2 with ⟨_, rfl⟩ | ⟨dd, us, rfl, _, h3, h4, h5⟩
  · simp at hl
  · obtain ⟨ns', hns', efl, hnd⟩ := g0.wf.fls c x hx
    rw [hns] at hns'
    cases hns'
    have eBf : r1.B.fl c = B.fl c := by rw [e1.B, eB]
    obtain ⟨v, hv1, hv2⟩ := look_rv hl h5
    have ef : (⟨f.cps.toList.toArray⟩ : Str) = f := by simp
    rw [ef] at hv1
    have kk : ∀ ys : List Str, ys = ns.map (fun n => (⟨n.toArray⟩ : Str)) → ys.Nodup := fun ys e => by
      rw [e]
      exact List.Pairwise.map _ (fun a b z w => z (by have := congrArg (fun s : Str => s.cps.toList) w; simpa using this)) hnd
    have hk : ((r1.B.fl c).zip us).lookup f = some v := by rw [eBf, efl]; exact hv1
    have hrev : ((r1.B.fl c).zip us).reverse.lookup f = some v := mem_look (by
      rw [List.map_reverse, zip_keys h4]
      exact List.pairwise_reverse.mpr ((show ((r1.B.fl c)).Nodup by rw [eBf]; exact kk _ efl).imp fun z w => z w.symm)) (List.mem_reverse.mpr (look_mem hk))
    have hfm : f ∈ B.fl c := by
      have := look_mem hk
      rw [eBf] at this
      exact (List.of_mem_zip this).1
    exact ⟨ad, Ca, dd, oe, ws, _, v, rfl, hm, hv, hz, ⟨EC.hg, EC.hk, EC.hs, EC.hd⟩, g0.wf.fno c x hx Ca eC f hfm, h3, hrev, g2 r1 v rfl (Ext.refl r1) R1 hv2⟩
end
end L2.MP
namespace L2.MZ
open PySem PySem.Spec PyProof.Rows L2
open PySem.Sem (wp)
abbrev ZK : List (Str × Value) := [(Str.ofString "strict", .bool true)]
section
variable {prog : Program} {w : World} {A : Around} {E : Value → Shared → Prop} {s : Shared}
theorem obj_init_kw {T newId : String} {self : Value} {rest : List Value} {kw : List (Str × Value)} (hl : typeLookup (.type T) "__init__" = pure (some (.builtin "object.__init__")))
    (hm : Bind.madeBy (.type T) = pure (some newId)) (hne : (some newId != some "object.__new__") = true) :
    Meets (Builtin.«object.__init__» ⟨self :: rest, kw⟩) (fun _ R s => s.TypeIs self T ∧ R (.ok (.ret .none)) s) := by
  refine Meets.of_wp fun prog w A R s hs => ?_
  obtain ⟨hT, hq⟩ := hs
  cases rest with
  | nil =>
    cases kw with
    | nil => exact wpAny_pure ⟨_, rfl, hq⟩
    | cons b kw =>
      repeat (any_goals (first | assumption | wp_step))
      exact ⟨_, rfl, hq⟩
  | cons a rest =>
    repeat (any_goals (first | assumption | wp_step))
    exact ⟨_, rfl, hq⟩
theorem callType_newK {T newId : String} {Bn : Builtin} {args : List Value} {kw : List (Str × Value)} {S : PySem.Spec} {Q : Value → Shared → Prop} (ft : TypeCalled T newId "object.__init__")
    (hne : (some newId != some "object.__new__") = true) (hct : checkTypeCall T ⟨args, kw⟩ = pure ()) (hcn : checkBuiltinCall newId ⟨.type T :: args, kw⟩ = pure ())
    (hok : ∀ obj, argsOk "object.__init__" ⟨obj :: args, kw⟩) (entryN : entryFor table newId = some Bn) (g : Meets (Bn ⟨.type T :: args, kw⟩) S)
    (h : S A.in1 (wants (fun obj s₁ => s₁.TypeIs obj T ∧ Q obj s₁) E) s) : wpAny (model prog w) A (call (.type T) args kw) Q E s := by
  obtain ⟨c, tl, hmro⟩ := ft.mro
  have hmade := ft.made
  have hsub := ft.sub
  refine wpAny_call (codeAny_of_tree ?_)
  show wpAny _ _ (callAny (.type T) _) _ _ _
  refine wpAny_pure ⟨Code.quiet_builtin _ (by decide +kernel), codeAny_builtin F.entry_type_call ?_⟩
  rw [Around.under_plain (weight_type_call_type T args kw) (units_type_call_type T args kw)]
  have h1 := ft.notType
  have h2 := ft.canCreate
  repeat (any_goals (first | assumption | wp_step))
  refine codeAny_mono (codeAny_call_builtin ft.plain entryN (wpAny_of_eq hcn (g prog w A.in1 _ s h))) fun r s₁ hr => ?_
  cases r with
  | error e => exact hr
  | ok fl =>
    cases fl with
    | ret obj =>
      obtain ⟨hT, hq⟩ := hr
      have hli := ft.init.lookup
      have hbi := ft.init.bind obj
      have gi := obj_init_kw (self := obj) (rest := args) (kw := kw) hli hmade hne
      have hsi : (fun (_ : Around) (R : Result → Shared → Prop) (s : Shared) => s.TypeIs obj T ∧ R (.ok (.ret .none)) s) A.in1 (wants (fun r s₂ => r = .none ∧ Q obj s₂) E) s₁ := ⟨hT, rfl, hq⟩
      repeat (any_goals (first | assumption | wp_step))
      refine codeAny_mono (codeAny_call_builtin ft.init.plain F.entry_object_init (ft.init.check _ _ _ _ _ _ _ _ hT (hok obj) (gi prog w A.in1 _ s₁ hsi))) fun r₂ s₂ hr₂ => ?_
      cases r₂ with
      | error e => exact hr₂
      | ok fl₂ =>
        cases fl₂ with
        | ret r =>
          obtain ⟨rfl, hq⟩ := hr₂
          repeat (any_goals (first | assumption | wp_step))
        | _ => exact hr₂.elim
    | _ => exact hr.elim
def SIt (t : Bool) (h : Heap) (it l : Addr) (k : Nat) : Prop := if t = true then h.IsTupleIter it l k else h.IsListIter it l k
def SSq (t : Bool) (h : Heap) (l : Addr) (xs : Array Value) : Prop := if t = true then h.IsTuple l xs else h.IsList l xs
theorem SIt.extBut {t : Bool} {h h' : Heap} {it l c : Addr} {k : Nat} (q : SIt t h it l k) (e : Heap.ExtBut c h h') (n : it ≠ c) : SIt t h' it l k := by
  cases t
  · exact Heap.IsListIter.extBut q e n
  · exact Heap.IsTupleIter.extBut q e n
theorem SSq.extBut {t : Bool} {h h' : Heap} {l c : Addr} {xs : Array Value} (q : SSq t h l xs) (e : Heap.ExtBut c h h') (n : l ≠ c) : SSq t h' l xs := by
  cases t
  · exact Heap.IsList.extBut q e n
  · exact Heap.IsTuple.extBut q e n
theorem SIt.at {t : Bool} {h h' : Heap} {it l : Addr} {k : Nat} (q : SIt t h it l k) (e : ∀ o, h.get? it = some o → h'.get? it = some o) : SIt t h' it l k := by
  cases t
  · exact Heap.IsListIter.at q e
  · exact Heap.IsTupleIter.at q e
theorem SIt.obj {t : Bool} {h : Heap} {it l : Addr} {k : Nat} (q : SIt t h it l k) : ∃ o fs, h.get? it = some o ∧ o.data = .fields fs := by
  cases t
  · obtain ⟨o, e, _, d⟩ := q; exact ⟨o, _, e, d⟩
  · obtain ⟨o, e, _, d⟩ := q; exact ⟨o, _, e, d⟩
theorem nextOf_tuple_item {it l : Addr} {i : Nat} {items} {x : Value} {Q : Value → Shared → Prop} (hit : s.heap.IsTupleIter it l i)
    (hl : s.heap.IsTuple l items) (hx : items[i]? = some x)
    (hQ : ∀ h', h'.IsTupleIter it l (i + 1) → Heap.SameBut it s.heap h' → Q x { s with heap := h' }) :
    wpAny (model prog w) A (Builtin.SmallTypes.nextOf (.ref it)) Q E s := by
  obtain ⟨o, ho, hc, hd⟩ := id hit
  obtain ⟨ol, hol, _, nl, hdl⟩ := hl
  unfold Builtin.SmallTypes.nextOf
  refine wpAny_bind (wpAny_callSpecial?_slot (name := Str.ofString "__next__") hit.typeIs F.slot_tuple_iterator_next
    (wpAny_call_entry F.slot_tuple_iterator_next hit.typeIs F.entry_tuple_iterator_next ?_ (F.args_tuple_iterator_next_1 _)))
  show wpAny _ _ (field (.ref it) 0 >>= _) _ _ s
  refine wpAny_bind (wpAny_field ho hd (x := .ref l) rfl ?_)
  show wpAny _ _ (if (Value.ref l == Value.none) = true then _ else _) _ _ s
  rw [if_neg (show ¬ ((Value.ref l == Value.none) = true) from Bool.false_ne_true)]
  show wpAny _ _ (field (.ref it) 1 >>= _) _ _ s
  refine wpAny_bind (wpAny_field ho hd (x := .int i 0) rfl ?_)
  show wpAny _ _ (seqItems? (.ref l) >>= _) _ _ s
  refine wpAny_bind (wpAny_seqItems hol hdl ?_)
  simp only [Int.toNat_natCast, hx]
  refine wpAny_bind (wpAny_setField ho hd (by simp) (wpAny_pure ⟨x, rfl, wpAny_pure (hQ _ ?_ (Heap.SameBut.update ..))⟩))
  exact ⟨_, Heap.get?_update_self _ ho (Obj.isFreed_of_fields (Obj.data_mapFields hd _)), (Obj.cls_mapFields ..).trans hc, by
    rw [Obj.data_mapFields hd]; simp [rawInt]⟩
theorem nextOf_tuple_end {it l : Addr} {i : Nat} {items} {Q : Value → Shared → Prop} (hh : A.handled = none)
    (hit : s.heap.IsTupleIter it l i) (hl : s.heap.IsTuple l items) (hx : items[i]? = none)
    (hE : ∀ h' e, Heap.ExtBut it s.heap h' → (∃ o, h'.get? e = some o ∧ o.cls = .type "StopIteration") → E (.ref e) { s with heap := h' }) :
    wpAny (model prog w) A (Builtin.SmallTypes.nextOf (.ref it)) Q E s := by
  obtain ⟨o, ho, hc, hd⟩ := id hit
  obtain ⟨ol, hol, _, nl, hdl⟩ := hl
  unfold Builtin.SmallTypes.nextOf
  refine wpAny_bind (wpAny_callSpecial?_slot (name := Str.ofString "__next__") hit.typeIs F.slot_tuple_iterator_next
    (wpAny_call_entry F.slot_tuple_iterator_next hit.typeIs F.entry_tuple_iterator_next ?_ (F.args_tuple_iterator_next_1 _)))
  show wpAny _ _ (field (.ref it) 0 >>= _) _ _ s
  refine wpAny_bind (wpAny_field ho hd (x := .ref l) rfl ?_)
  show wpAny _ _ (if (Value.ref l == Value.none) = true then _ else _) _ _ s
  rw [if_neg (show ¬ ((Value.ref l == Value.none) = true) from Bool.false_ne_true)]
  show wpAny _ _ (field (.ref it) 1 >>= _) _ _ s
  refine wpAny_bind (wpAny_field ho hd (x := .int i 0) rfl ?_)
  show wpAny _ _ (seqItems? (.ref l) >>= _) _ _ s
  refine wpAny_bind (wpAny_seqItems hol hdl ?_)
  simp only [Int.toNat_natCast, hx]
  refine wpAny_bind (wpAny_rule (wpAny_bind (wpAny_setField ho hd (by simp) ?_)))
  show wpAny _ _ (newExc (.type "StopIteration") [] >>= _) _ _ _
  refine wpAny_bind ?_
  simp only [newExc, newTuple]
  refine wpAny_bind (wpAny_newObj_type ?_ (by size_fits))
  refine wpAny_bind (m := firstArgMember _ _) (wpAny_of_eq (a := Value.none) (by first | rfl | (simp only [firstArgMember]; rfl)) ?_)
  refine wpAny_newObj_type ?_ (by size_fits)
  simp only [raiseNew]
  refine wpAny_bind (wpAny_handled ?_)
  first | rw [show A.in1.handled = none from hh] | rw [hh]
  refine wpAny_bind (wpAny_pure (wpAny_throw ?_))
  exact hE _ _ (((Heap.SameBut.update ..).extBut.push _).push _) ⟨_, Heap.get?_push_size _ rfl, rfl⟩
theorem nextOrEnd_item {t : Bool} {it l : Addr} {i : Nat} {items} {x : Value} {Q : Option Value → Shared → Prop} (hit : SIt t s.heap it l i)
    (hl : SSq t s.heap l items) (hx : items[i]? = some x) (hQ : ∀ h', SIt t h' it l (i + 1) → Heap.SameBut it s.heap h' → Q (some x) { s with heap := h' }) :
    wpAny (model prog w) A (Builtin.SmallTypes.nextOrEnd (.ref it)) Q E s := by
  unfold Builtin.SmallTypes.nextOrEnd
  cases t
  · exact wpAny_bind (wpAny_attempt (wpAny_nextOf_list_item hit hl hx fun h' a b => wpAny_pure (hQ h' a b)))
  · exact wpAny_bind (wpAny_attempt (nextOf_tuple_item hit hl hx fun h' a b => wpAny_pure (hQ h' a b)))
theorem nextOrEnd_end {t : Bool} {it l : Addr} {i : Nat} {items} {Q : Option Value → Shared → Prop} (hh : A.handled = none) (hit : SIt t s.heap it l i)
    (hl : SSq t s.heap l items) (hx : items[i]? = none) (hQ : ∀ h', Heap.ExtBut it s.heap h' → Q none { s with heap := h' }) :
    wpAny (model prog w) A (Builtin.SmallTypes.nextOrEnd (.ref it)) Q E s := by
  have fin : ∀ h' e, Heap.ExtBut it s.heap h' → (∃ o, h'.get? e = some o ∧ o.cls = .type "StopIteration") → wpAny (model prog w) A (do if ← isInstance (.ref e) (.type "StopIteration") then pure none else throw (.ref e)) Q E { s with heap := h' } := fun h' e hk ⟨o, ho, hc⟩ => by
    refine wpAny_bind (wpAny_isInstance (T := "StopIteration") (b := true) ⟨o, ho, hc⟩ isSubtype_stop ?_)
    exact wpAny_pure (hQ _ hk)
  unfold Builtin.SmallTypes.nextOrEnd
  cases t
  · exact wpAny_bind (wpAny_attempt (wpAny_nextOf_list_end hh hit hl hx fun h' e a b => fin h' e a b))
  · exact wpAny_bind (wpAny_attempt (nextOf_tuple_end hh hit hl hx fun h' e a b => fin h' e a b))
abbrev IsZipS (h : Heap) (z TI TO : Addr) (f0 : Value) : Prop :=
  h.get? z = some { cls := .type "zip", dict := none, data := .fields #[f0, .bool false, .bool true, .ref TI, .ref TO], slots := #[] }
theorem zipS_item {t1 t2 : Bool} {z TI TO i1 i2 l1 l2 : Addr} {k1 k2 : Nat} {xs ys : Array Value} {x y a b : Value} {Q : Value → Shared → Prop} (D : ZipApart z TI TO i1 i2 l1 l2)
    (hz : IsZipS s.heap z TI TO .none) (hTI : IsPair s.heap TI (.ref i1) (.ref i2)) (hTO : IsPair s.heap TO a b)
    (h1 : SIt t1 s.heap i1 l1 k1) (h2 : SIt t2 s.heap i2 l2 k2) (hl1 : SSq t1 s.heap l1 xs) (hl2 : SSq t2 s.heap l2 ys) (hx : xs[k1]? = some x) (hy : ys[k2]? = some y)
    (hQ : ∀ h', IsZipS h' z TI TO (rawInt s.heap.objs.size) → IsPair h' TO x y → SIt t1 h' i1 l1 (k1 + 1) → SIt t2 h' i2 l2 (k2 + 1) → IsPair h' s.heap.objs.size x y → h'.objs.size = s.heap.objs.size + 1 →
      (∀ c o, c ≠ z → c ≠ TO → c ≠ i1 → c ≠ i2 → s.heap.get? c = some o → h'.get? c = some o) → Q (.ref s.heap.objs.size) { s with heap := h' }) :
    wpAny (model prog w) A (Builtin.«zip.__next__» ⟨[.ref z], []⟩) (fun fin s' => ∃ v, fin = .done (.ret v) ∧ Q v s') E s := by
  show wpAny _ _ (field (.ref z) 2 >>= _) _ _ _
  refine wpAny_bind (wpAny_field hz rfl (x := .bool true) rfl ?_)
  show wpAny _ _ (field (.ref z) 3 >>= _) _ _ _
  refine wpAny_bind (wpAny_field hz rfl (x := .ref TI) rfl ?_)
  refine wpAny_bind (wpAny_seqItems hTI rfl ?_)
  show wpAny _ _ (Builtin.SmallTypes.ownedTupleIsFree (.ref z) >>= _) _ _ _
  refine wpAny_bind ?_
  unfold Builtin.SmallTypes.ownedTupleIsFree
  refine wpAny_bind (wpAny_field hz rfl (x := .none) rfl (wpAny_pure ?_))
  simp only [if_true]
  refine wpAny_bind (wpAny_rule ?_)
  refine wpAny_bind (wpAny_field hz rfl (x := .ref TO) rfl ?_)
  refine wpAny_bind (wpAny_setField_rec hz (by simp) fun h₁ hz₁ hs₁ => ?_)
  replace hz₁ : IsZipS h₁ z TI TO .ellipsis := hz₁
  refine wpAny_bind ?_
  simp only [List.zipIdx_cons, List.zipIdx_nil, List.forIn_cons, List.forIn_nil]
  refine wpAny_bind (wpAny_bind (wpAny_onRaise ?_))
  show wpAny _ _ (Builtin.SmallTypes.nextOrEnd (.ref i1)) _ _ _
  refine nextOrEnd_item (h1.extBut hs₁.extBut D.i1z) (hl1.extBut hs₁.extBut D.l1z) hx fun h₂ h1₂ hs₂ => ?_
  have hTO₂ : IsPair h₂ TO a b := hs₂.extBut _ _ D.TOi1 (hs₁.extBut _ _ D.TOz hTO)
  refine wpAny_bind (wpAny_seqItems hTO₂ rfl ?_)
  refine wpAny_bind (wpAny_updateSeq_pair hTO₂ fun h₃ hTO₃ hs₃ => ?_)
  replace hTO₃ : IsPair h₃ TO x b := hTO₃
  refine wpAny_bind (wpAny_letGo (wpAny_pure ?_))
  refine wpAny_bind (wpAny_bind (wpAny_onRaise ?_))
  show wpAny _ _ (Builtin.SmallTypes.nextOrEnd (.ref i2)) _ _ _
  refine nextOrEnd_item (((h2.extBut hs₁.extBut D.i2z).extBut hs₂.extBut D.i12.symm).extBut hs₃.extBut D.TOi2.symm)
    (((hl2.extBut hs₁.extBut D.l2z).extBut hs₂.extBut D.l2i1).extBut hs₃.extBut D.l2TO) hy fun h₄ h2₄ hs₄ => ?_
  have hTO₄ : IsPair h₄ TO x b := hs₄.extBut _ _ D.TOi2 hTO₃
  refine wpAny_bind (wpAny_seqItems hTO₄ rfl ?_)
  refine wpAny_bind (wpAny_updateSeq_pair hTO₄ fun h₅ hTO₅ hs₅ => ?_)
  replace hTO₅ : IsPair h₅ TO x y := hTO₅
  refine wpAny_bind (wpAny_letGo (wpAny_pure (wpAny_pure ?_)))
  refine wpAny_bind (wpAny_seqItems hTO₅ rfl ?_)
  refine wpAny_bind (wpAny_newTuple ?_)
  have hsz : h₅.objs.size = s.heap.objs.size := by rw [hs₅.1, hs₄.1, hs₃.1, hs₂.1, hs₁.1]
  have hz₅ : IsZipS h₅ z TI TO .ellipsis := hs₅.extBut _ _ D.TOz.symm (hs₄.extBut _ _ D.i2z.symm (hs₃.extBut _ _ D.TOz.symm (hs₂.extBut _ _ D.i1z.symm hz₁)))
  have hk₅ : ∀ c o, c ≠ z → c ≠ TO → c ≠ i1 → c ≠ i2 → s.heap.get? c = some o → h₅.get? c = some o := fun c o c1 c2 c3 c4 e =>
    hs₅.extBut _ _ c2 (hs₄.extBut _ _ c4 (hs₃.extBut _ _ c2 (hs₂.extBut _ _ c3 (hs₁.extBut _ _ c1 e))))
  have h1₅ : SIt t1 h₅ i1 l1 (k1 + 1) := ((h1₂.extBut hs₃.extBut D.TOi1.symm).extBut hs₄.extBut D.i12).extBut hs₅.extBut D.TOi1.symm
  have h2₅ : SIt t2 h₅ i2 l2 (k2 + 1) := h2₄.extBut hs₅.extBut D.TOi2.symm
  have hzlt : z < h₅.objs.size := Heap.lt_size hz₅
  have hTOlt : TO < h₅.objs.size := Heap.lt_size hTO₅
  show wpAny _ _ (Builtin.SmallTypes.ownedTupleHandOut (.ref z) (.ref h₅.objs.size) >>= _) _ _ _
  refine wpAny_bind ?_
  unfold Builtin.SmallTypes.ownedTupleHandOut
  have hz₆ : IsZipS (h₅.push { cls := .type "tuple", data := .seq #[x, y] }) z TI TO .ellipsis := Heap.get?_push_of_some _ hz₅
  refine wpAny_bind (wpAny_setField_rec hz₆ (by simp) fun h₇ hz₇ hs₇ => ?_)
  replace hz₇ : IsZipS h₇ z TI TO (rawInt h₅.objs.size) := hz₇
  refine wpAny_setField_rec hz₇ (by simp) fun h₈ hz₈ hs₈ => ?_
  replace hz₈ : IsZipS h₈ z TI TO (rawInt h₅.objs.size) := hz₈
  have up : ∀ c o, c ≠ z → h₅.get? c = some o → h₈.get? c = some o := fun c o c1 e => hs₈.extBut _ _ c1 (hs₇.extBut _ _ c1 (Heap.get?_push_of_some _ e))
  have hT₈ : IsPair h₈ h₅.objs.size x y := hs₈.extBut _ _ (Nat.ne_of_gt hzlt) (hs₇.extBut _ _ (Nat.ne_of_gt hzlt) (Heap.get?_push_size _ rfl))
  have hz8 : h₈.objs.size = h₅.objs.size + 1 := by rw [hs₈.1, hs₇.1, Heap.size_push]
  rw [hsz] at hz₈ hT₈ hz8
  refine wpAny_pure ⟨_, rfl, ?_⟩
  show Q (.ref h₅.objs.size) _
  rw [hsz]
  exact hQ h₈ hz₈ (up _ _ D.TOz hTO₅) (h1₅.at fun o e => up _ o D.i1z e) (h2₅.at fun o e => up _ o D.i2z e) hT₈ hz8 fun c o c1 c2 c3 c4 e => up c o c1 (hk₅ c o c1 c2 c3 c4 e)
theorem zipS_end {t1 t2 : Bool} {z TI TO i1 i2 l1 l2 : Addr} {k1 k2 : Nat} {xs ys : Array Value} {a b : Value} {Q : Fin → Shared → Prop} (hh : A.handled = none) (D : ZipApart z TI TO i1 i2 l1 l2)
    (hz : IsZipS s.heap z TI TO .none) (hTI : IsPair s.heap TI (.ref i1) (.ref i2)) (hTO : IsPair s.heap TO a b)
    (h1 : SIt t1 s.heap i1 l1 k1) (h2 : SIt t2 s.heap i2 l2 k2) (hl1 : SSq t1 s.heap l1 xs) (hl2 : SSq t2 s.heap l2 ys) (hx : xs[k1]? = none) (hy : ys[k2]? = none)
    (hE : ∀ h' e, (∀ c o, c ≠ z → c ≠ TO → c ≠ i1 → c ≠ i2 → s.heap.get? c = some o → h'.get? c = some o) → (∃ o, h'.get? e = some o ∧ o.cls = .type "StopIteration") → E (.ref e) { s with heap := h' }) :
    wpAny (model prog w) A (Builtin.«zip.__next__» ⟨[.ref z], []⟩) Q E s := by
  show wpAny _ _ (field (.ref z) 2 >>= _) _ _ _
  refine wpAny_bind (wpAny_field hz rfl (x := .bool true) rfl ?_)
  show wpAny _ _ (field (.ref z) 3 >>= _) _ _ _
  refine wpAny_bind (wpAny_field hz rfl (x := .ref TI) rfl ?_)
  refine wpAny_bind (wpAny_seqItems hTI rfl ?_)
  show wpAny _ _ (Builtin.SmallTypes.ownedTupleIsFree (.ref z) >>= _) _ _ _
  refine wpAny_bind ?_
  unfold Builtin.SmallTypes.ownedTupleIsFree
  refine wpAny_bind (wpAny_field hz rfl (x := .none) rfl (wpAny_pure ?_))
  simp only [if_true]
  refine wpAny_bind (wpAny_rule ?_)
  refine wpAny_bind (wpAny_field hz rfl (x := .ref TO) rfl ?_)
  refine wpAny_bind (wpAny_setField_rec hz (by simp) fun h₁ hz₁ hs₁ => ?_)
  replace hz₁ : IsZipS h₁ z TI TO .ellipsis := hz₁
  refine wpAny_bind ?_
  simp only [List.zipIdx_cons, List.zipIdx_nil, List.forIn_cons, List.forIn_nil]
  refine wpAny_bind (wpAny_bind (wpAny_onRaise ?_))
  show wpAny _ _ (Builtin.SmallTypes.nextOrEnd (.ref i1)) _ _ _
  refine nextOrEnd_end hh (h1.extBut hs₁.extBut D.i1z) (hl1.extBut hs₁.extBut D.l1z) hx fun h₂ hs₂ => ?_
  have hz₂ : IsZipS h₂ z TI TO .ellipsis := hs₂ _ _ D.i1z.symm hz₁
  refine wpAny_bind (wpAny_setField_rec hz₂ (by simp) fun h₃ hz₃ hs₃ => ?_)
  refine wpAny_bind ?_
  refine wpAny_bind (m := forIn (m := Sem) [(Value.ref i2, 1)] _ _) ?_
  simp only [List.forIn_cons, List.forIn_nil]
  have h2₃ : SIt t2 h₃ i2 l2 k2 := ((h2.extBut hs₁.extBut D.i2z).extBut hs₂ D.i12.symm).extBut hs₃.extBut D.i2z
  have l2₃ : SSq t2 h₃ l2 ys := ((hl2.extBut hs₁.extBut D.l2z).extBut hs₂ D.l2i1).extBut hs₃.extBut D.l2z
  refine wpAny_bind (wpAny_bind (nextOrEnd_end hh h2₃ l2₃ hy fun h₄ hs₄ => ?_))
  refine wpAny_pure (wpAny_pure ?_)
  refine wpAny_bind (wpAny_rule ?_)
  show wpAny _ _ (newExc (.type "StopIteration") [] >>= _) _ _ _
  refine wpAny_bind ?_
  simp only [newExc, newTuple]
  refine wpAny_bind (wpAny_newObj_type ?_ (by size_fits))
  refine wpAny_bind (m := firstArgMember _ _) (wpAny_of_eq (a := Value.none) (by first | rfl | (simp only [firstArgMember]; rfl)) ?_)
  refine wpAny_newObj_type ?_ (by size_fits)
  simp only [raiseNew]
  refine wpAny_bind (wpAny_handled ?_)
  first | rw [show A.in1.handled = none from hh] | rw [hh]
  refine wpAny_bind (wpAny_pure (wpAny_throw ?_))
  exact hE _ _ (fun c o c1 c2 c3 c4 x => Heap.get?_push_of_some _ (Heap.get?_push_of_some _ (hs₄ _ _ c4 (hs₃.extBut _ _ c1 (hs₂ _ _ c3 (hs₁.extBut _ _ c1 x)))))) ⟨_, Heap.get?_push_size _ rfl, rfl⟩
theorem pyNext_zipS_item {t1 t2 : Bool} {z TI TO i1 i2 l1 l2 : Addr} {k1 k2 : Nat} {xs ys : Array Value} {x y a b : Value} {Q : Option Value → Shared → Prop} (D : ZipApart z TI TO i1 i2 l1 l2)
    (hz : IsZipS s.heap z TI TO .none) (hTI : IsPair s.heap TI (.ref i1) (.ref i2)) (hTO : IsPair s.heap TO a b)
    (h1 : SIt t1 s.heap i1 l1 k1) (h2 : SIt t2 s.heap i2 l2 k2) (hl1 : SSq t1 s.heap l1 xs) (hl2 : SSq t2 s.heap l2 ys) (hx : xs[k1]? = some x) (hy : ys[k2]? = some y)
    (hQ : ∀ h', IsZipS h' z TI TO (rawInt s.heap.objs.size) → IsPair h' TO x y → SIt t1 h' i1 l1 (k1 + 1) → SIt t2 h' i2 l2 (k2 + 1) → IsPair h' s.heap.objs.size x y → h'.objs.size = s.heap.objs.size + 1 →
      (∀ c o, c ≠ z → c ≠ TO → c ≠ i1 → c ≠ i2 → s.heap.get? c = some o → h'.get? c = some o) → Q (some (.ref s.heap.objs.size)) { s with heap := h' }) :
    wpAny (model prog w) A (pyNext (.ref z)) Q E s := by
  have hT : s.TypeIs (.ref z) "zip" := ⟨_, hz, rfl⟩
  unfold pyNext
  exact wpAny_bind (wpAny_attempt (wpAny_callSpecial?_slot (name := Str.ofString "__next__") hT F.slot_zip_next
    (wpAny_call_entry F.slot_zip_next hT F.entry_zip_next
      (zipS_item D hz hTI hTO h1 h2 hl1 hl2 hx hy fun h' a1 a2 a3 a4 a5 a6 a7 => wpAny_pure (hQ h' a1 a2 a3 a4 a5 a6 a7)) (F.args_zip_next_1 _))))
theorem pyNext_zipS_end {t1 t2 : Bool} {z TI TO i1 i2 l1 l2 : Addr} {k1 k2 : Nat} {xs ys : Array Value} {a b : Value} {Q : Option Value → Shared → Prop} (hh : A.handled = none) (D : ZipApart z TI TO i1 i2 l1 l2)
    (hz : IsZipS s.heap z TI TO .none) (hTI : IsPair s.heap TI (.ref i1) (.ref i2)) (hTO : IsPair s.heap TO a b)
    (h1 : SIt t1 s.heap i1 l1 k1) (h2 : SIt t2 s.heap i2 l2 k2) (hl1 : SSq t1 s.heap l1 xs) (hl2 : SSq t2 s.heap l2 ys) (hx : xs[k1]? = none) (hy : ys[k2]? = none)
    (hQ : ∀ h', (∀ c o, c ≠ z → c ≠ TO → c ≠ i1 → c ≠ i2 → s.heap.get? c = some o → h'.get? c = some o) → Q none { s with heap := h' }) : wpAny (model prog w) A (pyNext (.ref z)) Q E s := by
  have hT : s.TypeIs (.ref z) "zip" := ⟨_, hz, rfl⟩
  unfold pyNext
  refine wpAny_bind (wpAny_attempt (wpAny_callSpecial?_slot (name := Str.ofString "__next__") hT F.slot_zip_next
    (wpAny_call_entry F.slot_zip_next hT F.entry_zip_next (zipS_end hh D hz hTI hTO h1 h2 hl1 hl2 hx hy fun h' e hk he => ?_) (F.args_zip_next_1 _))))
  obtain ⟨o, ho, hc⟩ := he
  refine wpAny_bind (wpAny_isInstance (T := "StopIteration") (b := true) ⟨o, ho, hc⟩ isSubtype_stop ?_)
  exact wpAny_pure (hQ _ hk)
theorem letGo_zipS {elts : List Expr} {x1} {pos : Pos} {z TI TO T : Addr} {Q : Unit → Shared → Prop} (hz : IsZipS s.heap z TI TO (rawInt T))
    (hQ : ∀ h', IsZipS h' z TI TO .none → Heap.SameBut z s.heap h' → Q () { s with heap := h' }) :
    wpAny (model prog w) A (letOwnedTupleGo (.Tuple elts x1 pos) (.ref z) (.ref T)) Q E s := by
  unfold letOwnedTupleGo
  refine wpAny_bind (wpAny_load hz ?_)
  show wpAny _ _ (if (["enumerate", "zip", "dict_itemiterator", "dict_reverseitemiterator", "odict_iterator", "itertools.zip_longest", "itertools.pairwise"].contains "zip" &&
      (#[rawInt T, .bool false, .bool true, .ref TI, .ref TO] : Array Value)[0]? == some (rawInt T)) = true then _ else _) Q E s
  rw [if_pos (by simp)]
  refine wpAny_bind (wpAny_rule ?_)
  show wpAny _ _ (setField (.ref z) 0 .none) Q E s
  exact wpAny_setField_rec hz (by simp) fun h' hz' hs' => hQ h' hz' hs'
theorem pyIter_zipS {z TI TO : Addr} {f0 : Value} {Q : Value → Shared → Prop} (hz : IsZipS s.heap z TI TO f0) (h : Q (.ref z) s) : wpAny (model prog w) A (pyIter (.ref z)) Q E s := by
  have hT : s.TypeIs (.ref z) "zip" := ⟨_, hz, rfl⟩
  refine wpAny_pyIter_slot hT F.slot_zip_iter (wpAny_call_entry F.slot_zip_iter hT F.entry_zip_iter ?_ (F.args_zip_iter_1 _))
  show wpAny _ _ (ret (.ref z)) _ _ s
  exact wpAny_pure ⟨_, rfl, "zip", _, hT, F.slot_zip_next.lookup, h⟩
end
def itN (t : Bool) : String := if t = true then "tuple_iterator" else "list_iterator"
abbrev zH1 (t1 : Bool) (h : Heap) (l1 : Addr) : Heap := h.push { cls := .type (itN t1), data := .fields #[.ref l1, .int 0 0] }
abbrev zH2 (t1 t2 : Bool) (h : Heap) (l1 l2 : Addr) : Heap := (zH1 t1 h l1).push { cls := .type (itN t2), data := .fields #[.ref l2, .int 0 0] }
abbrev zH3 (t1 t2 : Bool) (h : Heap) (l1 l2 : Addr) : Heap := (zH2 t1 t2 h l1 l2).push { cls := .type "tuple", data := .seq #[.ref h.objs.size, .ref (zH1 t1 h l1).objs.size] }
abbrev zH4 (t1 t2 : Bool) (h : Heap) (l1 l2 : Addr) : Heap := (zH3 t1 t2 h l1 l2).push { cls := .type "tuple", data := .seq #[.none, .none] }
abbrev zH5 (t1 t2 : Bool) (h : Heap) (l1 l2 : Addr) : Heap := (zH4 t1 t2 h l1 l2).push { cls := .type "zip", data := .fields #[.none, .bool false, .bool true, .ref (zH2 t1 t2 h l1 l2).objs.size, .ref (zH3 t1 t2 h l1 l2).objs.size] }
theorem meets_zipS (t1 t2 : Bool) (l1 l2 : Addr) (xs ys : Array Value) :
    Meets (Builtin.«zip.__new__» ⟨[.type "zip", .ref l1, .ref l2], ZK⟩) (fun _ R s => SSq t1 s.heap l1 xs ∧ SSq t2 s.heap l2 ys ∧
      R (.ok (.ret (.ref (zH4 t1 t2 s.heap l1 l2).objs.size))) { s with heap := zH5 t1 t2 s.heap l1 l2 }) :=
  .of_wp fun prog w A R s h => by
    obtain ⟨hp, g, d, tk, os⟩ := s; obtain ⟨hl1, hl2, h⟩ := h
    have hsub := sub_zip
    cases t1 <;> cases t2
    · have hL1 : Heap.IsList (Shared.heap ⟨hp, g, d, tk, os⟩) l1 xs := hl1
      have hL2 : Heap.IsList (Shared.heap ⟨hp.push { cls := .type "list_iterator", data := .fields #[.ref l1, .int 0 0] }, g, d, tk, os⟩) l2 ys := Heap.IsList.push hl2 _
      wp_walk using wpAny_pyIter_list hL1, wpAny_pyIter_list hL2
      exact ⟨_, rfl, h⟩
    · have hL1 : Heap.IsList (Shared.heap ⟨hp, g, d, tk, os⟩) l1 xs := hl1
      have hL2 : Heap.IsTuple (Shared.heap ⟨hp.push { cls := .type "list_iterator", data := .fields #[.ref l1, .int 0 0] }, g, d, tk, os⟩) l2 ys := Heap.IsTuple.push hl2 _
      wp_walk using wpAny_pyIter_list hL1, wpAny_pyIter_tuple hL2
      exact ⟨_, rfl, h⟩
    · have hL1 : Heap.IsTuple (Shared.heap ⟨hp, g, d, tk, os⟩) l1 xs := hl1
      have hL2 : Heap.IsList (Shared.heap ⟨hp.push { cls := .type "tuple_iterator", data := .fields #[.ref l1, .int 0 0] }, g, d, tk, os⟩) l2 ys := Heap.IsList.push hl2 _
      wp_walk using wpAny_pyIter_tuple hL1, wpAny_pyIter_list hL2
      exact ⟨_, rfl, h⟩
    · have hL1 : Heap.IsTuple (Shared.heap ⟨hp, g, d, tk, os⟩) l1 xs := hl1
      have hL2 : Heap.IsTuple (Shared.heap ⟨hp.push { cls := .type "tuple_iterator", data := .fields #[.ref l1, .int 0 0] }, g, d, tk, os⟩) l2 ys := Heap.IsTuple.push hl2 _
      wp_walk using wpAny_pyIter_tuple hL1, wpAny_pyIter_tuple hL2
      exact ⟨_, rfl, h⟩
end L2.MZ
namespace L2.MZ
open PySem PySem.Spec PyProof.Rows L2
section
variable {prog : Program} {w : World} {A : Around} {E : Value → Shared → Prop} {s : Shared}
theorem call_zipS {t1 t2 : Bool} {l1 l2 : Addr} {xs ys : Array Value} {Q : Value → Shared → Prop} (hl1 : SSq t1 s.heap l1 xs) (hl2 : SSq t2 s.heap l2 ys)
    (h : ∀ h', IsZipS h' (s.heap.objs.size + 4) (s.heap.objs.size + 2) (s.heap.objs.size + 3) .none → IsPair h' (s.heap.objs.size + 2) (.ref s.heap.objs.size) (.ref (s.heap.objs.size + 1)) →
      IsPair h' (s.heap.objs.size + 3) .none .none → SIt t1 h' s.heap.objs.size l1 0 → SIt t2 h' (s.heap.objs.size + 1) l2 0 → h'.objs.size = s.heap.objs.size + 5 →
      (∀ c o, s.heap.get? c = some o → h'.get? c = some o) → Q (.ref (s.heap.objs.size + 4)) { s with heap := h' }) :
    wpAny (model prog w) A (call (.type "zip") [.ref l1, .ref l2] ZK) Q E s := by
  refine callType_newK F.called_zip (by decide) (by kernel_rfl) (by kernel_rfl) (fun obj => by
      unfold argsOk; rw [signature?_of (id := "object.__init__") (n := ['_', '_', 't', 'i', 'n', 'i', '_', '_']) (o := ['t', 'c', 'e', 'j', 'b', 'o']) (by kernel_rfl) F.owner_object]; kernel_rfl) F.entry_zip_new
    (meets_zipS t1 t2 l1 l2 xs ys) ⟨hl1, hl2, ?_⟩
  have z1 : (zH1 t1 s.heap l1).objs.size = s.heap.objs.size + 1 := Heap.size_push ..
  have z2 : (zH2 t1 t2 s.heap l1 l2).objs.size = s.heap.objs.size + 2 := by rw [Heap.size_push, z1]
  have z3 : (zH3 t1 t2 s.heap l1 l2).objs.size = s.heap.objs.size + 3 := by rw [Heap.size_push, z2]
  have z4 : (zH4 t1 t2 s.heap l1 l2).objs.size = s.heap.objs.size + 4 := by rw [Heap.size_push, z3]
  have z5 : (zH5 t1 t2 s.heap l1 l2).objs.size = s.heap.objs.size + 5 := by rw [Heap.size_push, z4]
  have g5 : (zH5 t1 t2 s.heap l1 l2).get? (zH4 t1 t2 s.heap l1 l2).objs.size = some _ := Heap.get?_push_size _ rfl
  have g4 : (zH5 t1 t2 s.heap l1 l2).get? (zH3 t1 t2 s.heap l1 l2).objs.size = some _ := Heap.get?_push_of_some _ (Heap.get?_push_size _ rfl)
  have g3 : (zH5 t1 t2 s.heap l1 l2).get? (zH2 t1 t2 s.heap l1 l2).objs.size = some _ := Heap.get?_push_of_some _ (Heap.get?_push_of_some _ (Heap.get?_push_size _ rfl))
  have g2 : (zH5 t1 t2 s.heap l1 l2).get? (zH1 t1 s.heap l1).objs.size = some _ := Heap.get?_push_of_some _ (Heap.get?_push_of_some _ (Heap.get?_push_of_some _ (Heap.get?_push_size _ rfl)))
  have g1 : (zH5 t1 t2 s.heap l1 l2).get? s.heap.objs.size = some _ := Heap.get?_push_of_some _ (Heap.get?_push_of_some _ (Heap.get?_push_of_some _ (Heap.get?_push_of_some _ (Heap.get?_push_size _ rfl))))
  show _ ∧ _
  rw [z2, z3, z4] at g5
  rw [z1, z2] at g3
  rw [z3] at g4
  rw [z1] at g2
  rw [z4]
  refine ⟨⟨_, g5, rfl⟩, h _ g5 g3 g4 ?_ ?_ z5 fun c o x =>
    Heap.get?_push_of_some _ (Heap.get?_push_of_some _ (Heap.get?_push_of_some _ (Heap.get?_push_of_some _ (Heap.get?_push_of_some _ x))))⟩
  · cases t1
    · exact ⟨_, g1, rfl, rfl⟩
    · exact ⟨_, g1, rfl, rfl⟩
  · cases t2
    · exact ⟨_, g2, rfl, rfl⟩
    · exact ⟨_, g2, rfl, rfl⟩
end
def Sq (t : Bool) (K : PySem.W.Frag) (H : Hp) (a : Addr) (xs : List V) : Prop := if t = true then SqT K H a xs else SqL K H a xs
/-- the sequences at a and b as they stand at each turn, both of one length, the items in new pairs -/
def ItzS (K : PySem.W.Frag) (t1 t2 : Bool) (a b : Addr) : It :=
  ⟨fun i H => ∃ (xs ys : List V) (x y : V), Sq t1 K H a xs ∧ Sq t2 K H b ys ∧ xs[i]? = some x ∧ ys[i]? = some y,
    fun i H v H' => ∃ T x y, v = .ref T ∧ H T = none ∧ H' = upd H T (.tup [x, y]) ∧ (∀ xs, Sq t1 K H a xs → xs[i]? = some x) ∧ ∀ ys, Sq t2 K H b ys → ys[i]? = some y,
    fun i H => ∃ xs ys : List V, Sq t1 K H a xs ∧ Sq t2 K H b ys ∧ xs.length ≤ i ∧ ys.length ≤ i⟩
section
variable {X : Cx} {pins : List (Addr × Obj)} {σ : L2.St} {H : Hp} {s : Shared}
theorem sq_at {t : Bool} {a : Addr} {xs : List V} (I : Inv X pins σ H s) (q : Sq t X.K H a xs) : ∃ its : List Value, Vals xs its ∧ SSq t s.heap a its.toArray ∧ a < s.heap.objs.size := by
  cases t
  · obtain ⟨its, rv, p, _⟩ := I.list q
    exact ⟨its, rv, p.isList, p.lt⟩
  · obtain ⟨its, rv, p, _⟩ := I.tuple q
    obtain ⟨o, ho, _⟩ := id p
    exact ⟨its, rv, p, Heap.lt_size ho⟩
theorem sq_inj {t : Bool} {a : Addr} {xs ys : List V} (I : Inv X pins σ H s) (q : Sq t X.K H a xs) (p : Sq t X.K H a ys) : xs = ys := by
  cases t
  · exact I.list_inj q p
  · exact I.tuple_inj q p
end
theorem turn_zipS {P : Program} {w : World} {K : PySem.W.Frag} {t1 t2 : Bool} {elts : List Expr} {kk : Nat} {tpos : Pos} {a b z TI TO i1 i2 : Addr} (D : ZipApart z TI TO i1 i2 a b) :
    Turn P w K (.Tuple elts kk tpos) (ItzS K t1 t2 a b) [z, TI, TO, i1, i2] z (fun i h => IsZipS h z TI TO .none ∧ IsPair h TI (.ref i1) (.ref i2) ∧ (∃ x y, IsPair h TO x y) ∧ SIt t1 h i1 a i ∧ SIt t2 h i2 b i) where
  mem := by simp
  obj := fun i h st c hc => by
    obtain ⟨hz, hTI, ⟨x, y, hTO⟩, h1, h2⟩ := st
    obtain ⟨o1, f1, e1, d1⟩ := h1.obj
    obtain ⟨o2, f2, e2, d2⟩ := h2.obj
    have e' : c = z ∨ c = TI ∨ c = TO ∨ c = i1 ∨ c = i2 := by simpa using hc
    rcases e' with q | q | q | q | q
    · rw [q]; exact ⟨_, hz, fun v q => nomatch q⟩
    · rw [q]; exact ⟨_, hTI, fun v q => nomatch q⟩
    · rw [q]; exact ⟨_, hTO, fun v q => nomatch q⟩
    · rw [q]; exact ⟨o1, e1, fun v q => by rw [d1] at q; cases q⟩
    · rw [q]; exact ⟨o2, e2, fun v q => by rw [d2] at q; cases q⟩
  keep := fun i h h' st k => by
    obtain ⟨hz, hTI, ⟨x, y, hTO⟩, h1, h2⟩ := st
    exact ⟨k z (by simp) _ hz, k TI (by simp) _ hTI, ⟨x, y, k TO (by simp) _ hTO⟩, h1.at fun o q => k i1 (by simp) o q, h2.at fun o q => k i2 (by simp) o q⟩
  item := by
    intro X hP hw hK hc i pins s σ H E I hf st hg
    subst hP hw hK
    obtain ⟨hz, hTI, ⟨x0, y0, hTO⟩, h1, h2⟩ := st
    obtain ⟨xs, ys, x, y, hqx, hqy, hx, hy⟩ := hg
    obtain ⟨its, rv, p, _⟩ := sq_at I hqx
    obtain ⟨its2, rv2, p2, _⟩ := sq_at I hqy
    obtain ⟨u, hu, ru⟩ := rv.get hx
    obtain ⟨u2, hu2, ru2⟩ := rv2.get hy
    have hzl : z < s.heap.objs.size := Heap.lt_size hz
    refine pyNext_zipS_item D hz hTI hTO h1 h2 p p2 (x := u) (y := u2) (by simpa using hu) (by simpa using hu2) fun h' z' TO' h1' h2' hT hsz hk => ?_
    refine ⟨_, rfl, letGo_zipS (s := { s with heap := h' }) z' fun h'' z'' sb => ?_⟩
    have hT2 : h''.get? s.heap.objs.size = some { cls := .type "tuple", data := .seq #[u, u2] } := (sb.2 _ (Nat.ne_of_gt hzl)).trans hT
    have new : ObjOk X.prog X.w (upd H s.heap.objs.size (.tup [x, y])) h'' s.heap.objs.size (.tup [x, y]) :=
      ⟨by show 2 ≤ sizeLine; decide, [u, u2], .cons ru (.cons ru2 .nil), ⟨_, hT2, rfl, _, rfl⟩⟩
    have I1 : Inv X pins σ (upd H s.heap.objs.size (.tup [x, y])) { s with heap := h'' } :=
      I.turnedNew (t' := s.toks) (ch := [z, TI, TO, i1, i2]) (fun c o hb q => (sb.2 c (fun q' => hb (by simp [q']))).trans (hk c o (fun q' => hb (by simp [q'])) (fun q' => hb (by simp [q'])) (fun q' => hb (by simp [q'])) (fun q' => hb (by simp [q'])) q)) hf (Nat.le_refl _) new
    refine ⟨.ref s.heap.objs.size, _, I1, rfl, ⟨_, x, y, rfl, I.hok.fresh (Nat.le_refl _), rfl, fun l hl => by rw [sq_inj I hl hqx]; exact hx, fun l hl => by rw [sq_inj I hl hqy]; exact hy⟩, ⟨z'', ?_, ⟨u, u2, ?_⟩, ?_, ?_⟩, fun c hcm => ?_⟩
    · exact (sb.2 _ D.TIz).trans (hk _ _ D.TIz D.TITO D.TIi1 D.TIi2 hTI)
    · exact (sb.2 _ D.TOz).trans TO'
    · exact h1'.at fun o q => (sb.2 _ D.i1z).trans q
    · exact h2'.at fun o q => (sb.2 _ D.i2z).trans q
    · have hlt : c < s.heap.objs.size := by
        have e' : c = z ∨ c = TI ∨ c = TO ∨ c = i1 ∨ c = i2 := by simpa using hcm
        obtain ⟨o1, f1, e1, d1⟩ := h1.obj
        obtain ⟨o2, f2, e2, d2⟩ := h2.obj
        rcases e' with q | q | q | q | q
        · rw [q]; exact hzl
        · rw [q]; exact Heap.lt_size hTI
        · rw [q]; exact Heap.lt_size hTO
        · rw [q]; exact Heap.lt_size e1
        · rw [q]; exact Heap.lt_size e2
      rw [upd_ne (Nat.ne_of_lt hlt)]
      exact (hf c hcm).1
  done := by
    intro X hP hw hK hc i pins s σ H E I hf st hg
    subst hP hw hK
    obtain ⟨hz, hTI, ⟨x0, y0, hTO⟩, h1, h2⟩ := st
    obtain ⟨xs, ys, hqx, hqy, hend1, hend2⟩ := hg
    obtain ⟨its, rv, p, _⟩ := sq_at I hqx
    obtain ⟨its2, rv2, p2, _⟩ := sq_at I hqy
    have l1 := rv.length
    have l2 := rv2.length
    have he1 : its.toArray[i]? = none := by simp; omega
    have he2 : its2.toArray[i]? = none := by simp; omega
    exact pyNext_zipS_end (I.ok.hd hc) D hz hTI hTO h1 h2 p p2 he1 he2 fun h' hk => ⟨rfl, I.turnedL (t' := s.toks) (ch := [z, TI, TO, i1, i2]) (fun c o hb q =>
      hk c o (fun q' => hb (by simp [q'])) (fun q' => hb (by simp [q'])) (fun q' => hb (by simp [q'])) (fun q' => hb (by simp [q'])) q) hf⟩
  self := fun A i s Q E st h => pyIter_zipS st.1 h
def iZipS (K : PySem.W.Frag) (ta : TA) : TI := fun σ H R => ta σ H fun vs H1 => ∃ t1 t2 a b xs ys, vs = [.ref a, .ref b] ∧ Sq t1 K H1 a xs ∧ Sq t2 K H1 b ys ∧ R (ItzS K t1 t2 a b) H1
theorem callWith_typeK {M : Model} {A : Around} {E : Value → Shared → Prop} {s : Shared} {env : Env} {pos : Pos} {T : String} {e : Expr} {rest : List Expr} {kws : List Keyword} {Q : Value → Shared → Prop}
    (h : wpAny M A (spliced (backTo pos (starEach (e :: rest) env))) (fun vs s₁ => wpAny M A (evalAll ((backToKw pos (keywordEach kws env)).map (·.2)))
      (fun kvs s₂ => wpAny M A (call (.type T) vs (((backToKw pos (keywordEach kws env)).filterMap (·.1)).zip kvs)) Q E s₂) E s₁) E s)
    (he : backTo pos (starEach (e :: rest) env) = (false, eval e env) :: backTo pos (starEach rest env) := by rfl)
    (hplain : (backTo pos (starEach (e :: rest) env)).any (·.1) = false := by rfl)
    (hall : (backToKw pos (keywordEach kws env)).all (·.1.isSome) = true := by rfl)
    (hkw : (backToKw pos (keywordEach kws env)).any (·.1.isNone) = false := by rfl) :
    wpAny M A (callWith pos (.type T) [] (backTo pos (starEach (e :: rest) env)) (backToKw pos (keywordEach kws env))) Q E s := by
  have h2 : wpAny M A (evalArgs (.type T) true (backTo pos (starEach (e :: rest) env)) (backToKw pos (keywordEach kws env))) (fun a s₁ => wpAny M A (call (.type T) ([] ++ a.pos) a.kw) Q E s₁) E s := by
    rw [he] at h ⊢
    exact evalArgs_kwB hall h
  unfold callWith
  refine wpAny_bind (wpAny_holding (wpAny_mono h2 (fun a s₁ h₁ => wpAny_bind (wpAny_standAt ?_)) fun _ _ x => x))
  simp only [hplain, hkw, Bool.or_false]
  refine wpAny_bind (wpAny_pure ?_)
  exact wpAny_bind (wpAny_mono h₁ (fun r s₂ hr => wpAny_bind (wpAny_holding (wpAny_point (wpAny_pure hr)))) fun _ _ x => x)
theorem pi_zipS {X : Cx} {e e2 : Expr} {ta : TA} {p pos tpos kp cp : Pos} {elts : List Expr} {kk cj : Nat} (hg : Gl X "zip") (hm : X.mg "zip" = none) (ha : PA X [e, e2] ta)
    (he : backTo pos (starEach [e, e2] X.env) = (false, eval e X.env) :: backTo pos (starEach [e2] X.env)) (hpl : (backTo pos (starEach [e, e2] X.env)).any (·.1) = false) :
    PI X (.Tuple elts kk tpos) (.Call (.Name "zip" p) [e, e2] [⟨some "strict", .Constant (.bool true) cj cp, kp⟩] pos) (iZipS X.K ta) := by
  have hk : PK X [⟨some "strict", .Constant (.bool true) cj cp, kp⟩] _ := pk_cons (pe_bl (b := true)) pk_nil
  refine ⟨fun pins s σ H R I h => ?_⟩
  refine wpAny_Call_Name_kw (ld_blt I hg hm PyProof.Rows.boot_zip ?_)
  refine callWith_typeK (thn (ha.run pos pins s σ H _ I h) fun us s1 ⟨vs, H1, I1, r1, q1⟩ => thn (hk.run pos pins s1 σ H1 (fun zs H2 => H2 = H1 ∧ zs = [.bl true]) I1 ⟨rfl, rfl⟩) fun ws s2 ⟨zs, H2, I2, r2, q2⟩ => ?_) he hpl rfl rfl
  obtain ⟨rfl, rfl⟩ := q2
  obtain ⟨w1, rfl, e1⟩ := vals1 r2
  obtain rfl : w1 = Value.bool true := e1
  obtain ⟨t1, t2, a, b, xs, ys, ex, hqx, hqy, q⟩ := q1
  subst ex
  show wpAny _ _ (call (.type "zip") us ZK) _ _ _
  cases r1 with
  | cons r rr =>
    cases rr with
    | cons r' rr =>
      cases rr
      cases r
      cases r'
      have fresh5 : ∀ c, c ∈ [s2.heap.objs.size + 4, s2.heap.objs.size + 2, s2.heap.objs.size + 3, s2.heap.objs.size, s2.heap.objs.size + 1] → FpOk X pins H2 c := fun c hcm => by
        have e' : c = s2.heap.objs.size + 4 ∨ c = s2.heap.objs.size + 2 ∨ c = s2.heap.objs.size + 3 ∨ c = s2.heap.objs.size ∨ c = s2.heap.objs.size + 1 := by simpa using hcm
        have hle : s2.heap.objs.size ≤ c := by
          rcases e' with z | z | z | z | z
          · rw [z]; exact Nat.le_add_right _ _
          · rw [z]; exact Nat.le_add_right _ _
          · rw [z]; exact Nat.le_add_right _ _
          · rw [z]; exact Nat.le_refl _
          · rw [z]; exact Nat.le_add_right _ _
        exact I2.fpOk hle (I2.hok.fresh hle)
      obtain ⟨its, rv, p1, la⟩ := sq_at I2 hqx
      obtain ⟨its2, rv2, p2, lb⟩ := sq_at I2 hqy
      refine call_zipS p1 p2 fun h' hz hTI hTO h1 h2 hsz hk => pyIter_zipS hz ?_
      have I3 : Inv X pins σ H2 { s2 with heap := h' } := I2.kept (t' := s2.toks) hk
      exact ⟨s2.heap.objs.size + 4, [s2.heap.objs.size + 4, s2.heap.objs.size + 2, s2.heap.objs.size + 3, s2.heap.objs.size, s2.heap.objs.size + 1], _, _, H2, rfl, I3, turn_zipS (PySem.W.ktu_apart s2.heap.objs.size a b la lb), ⟨hz, hTI, ⟨_, _, hTO⟩, h1, h2⟩, fresh5, q⟩
end L2.MZ
namespace L2.MZ
open PySem PySem.Spec PyProof.Rows L2
abbrev EK (t : Tok) : List (Str × Value) := [(Str.ofString "start", .int 1 t)]
section
variable {prog : Program} {w : World} {A : Around} {E : Value → Shared → Prop} {s : Shared}
theorem nextOf_item {t : Bool} {it l : Addr} {i : Nat} {items} {x : Value} {Q : Value → Shared → Prop} (hit : SIt t s.heap it l i)
    (hl : SSq t s.heap l items) (hx : items[i]? = some x) (hQ : ∀ h', SIt t h' it l (i + 1) → Heap.SameBut it s.heap h' → Q x { s with heap := h' }) :
    wpAny (model prog w) A (Builtin.SmallTypes.nextOf (.ref it)) Q E s := by
  cases t
  · exact wpAny_nextOf_list_item hit hl hx hQ
  · exact nextOf_tuple_item hit hl hx hQ
theorem nextOf_end {t : Bool} {it l : Addr} {i : Nat} {items} {Q : Value → Shared → Prop} (hh : A.handled = none)
    (hit : SIt t s.heap it l i) (hl : SSq t s.heap l items) (hx : items[i]? = none)
    (hE : ∀ h' e, Heap.ExtBut it s.heap h' → (∃ o, h'.get? e = some o ∧ o.cls = .type "StopIteration") → E (.ref e) { s with heap := h' }) :
    wpAny (model prog w) A (Builtin.SmallTypes.nextOf (.ref it)) Q E s := by
  cases t
  · exact wpAny_nextOf_list_end hh hit hl hx hE
  · exact nextOf_tuple_end hh hit hl hx hE
theorem enumS_item {t : Bool} {e it l : Addr} {i : Nat} {c : Int} {items : Array Value} {x old : Value} {Q : Value → Shared → Prop}
    (he : IsEnum s.heap e it c old) (hit : SIt t s.heap it l i) (hl : SSq t s.heap l items) (hx : items[i]? = some x) (hne : e ≠ it)
    (hQ : ∀ h', IsEnumOut h' e it (c + 1) x s.heap.objs.size → SIt t h' it l (i + 1) →
      h'.get? s.heap.objs.size = some { cls := .type "tuple", data := .seq #[.int c s.toks, x] } → h'.objs.size = s.heap.objs.size + 1 →
      (∀ b o, b ≠ e → b ≠ it → s.heap.get? b = some o → h'.get? b = some o) → Q (.ref s.heap.objs.size) { s with heap := h', toks := s.toks + 1 }) :
    wpAny (model prog w) A (Builtin.«enumerate.__next__» ⟨[.ref e], []⟩) (fun fin s' => ∃ v, fin = .done (.ret v) ∧ Q v s') E s := by
  obtain ⟨hp, g, d, tk, os⟩ := s
  show wpAny _ _ (field (.ref e) 2 >>= _) _ _ _
  refine wpAny_bind (wpAny_field he rfl (x := .ref it) rfl ?_)
  refine wpAny_bind (nextOf_item hit hl hx fun h₁ hit₁ hs₁ => ?_)
  replace hs₁ : Heap.SameBut it hp h₁ := hs₁
  have he₁ : IsEnum h₁ e it c old := (hs₁.2 e hne).trans he
  show wpAny _ _ (field (.ref e) 3 >>= _) _ _ ⟨h₁, g, d, tk, os⟩
  refine wpAny_bind (wpAny_field he₁ rfl (x := rawInt c) rfl ?_)
  show wpAny _ _ (field (.ref e) 4 >>= _) _ _ ⟨h₁, g, d, tk, os⟩
  refine wpAny_bind (wpAny_field he₁ rfl (x := .none) rfl ?_)
  show wpAny _ _ (mkInt c >>= _) _ _ ⟨h₁, g, d, tk, os⟩
  refine wpAny_bind (wpAny_mkInt ?_)
  show wpAny _ _ (setField (.ref e) 3 (rawInt (c + 1)) >>= _) _ _ ⟨h₁, g, d, tk + 1, os⟩
  refine wpAny_bind (wpAny_setField_rec he₁ (by simp) fun h₂ he₂ hs₂ => ?_)
  replace hs₂ : Heap.SameBut e h₁ h₂ := hs₂
  replace he₂ : IsEnum h₂ e it (c + 1) old := he₂
  show wpAny _ _ (setField (.ref e) 4 .none >>= _) _ _ ⟨h₂, g, d, tk + 1, os⟩
  refine wpAny_bind (wpAny_setField_rec he₂ (by simp) fun h₃ he₃ hs₃ => ?_)
  replace hs₃ : Heap.SameBut e h₂ h₃ := hs₃
  replace he₃ : IsEnum h₃ e it (c + 1) old := he₃
  show wpAny _ _ (newTuple [.int c tk, x] >>= _) _ _ ⟨h₃, g, d, tk + 1, os⟩
  refine wpAny_bind (wpAny_newTuple ?_)
  have he₄ : IsEnum (h₃.push { cls := .type "tuple", data := .seq #[.int c tk, x] }) e it (c + 1) old := Heap.get?_push_of_some _ he₃
  generalize hh₄ : h₃.push { cls := .type "tuple", data := .seq #[.int c tk, x] } = h₄ at he₄
  have hsz : h₃.objs.size = hp.objs.size := by rw [hs₃.1, hs₂.1, hs₁.1]
  have hel : e < hp.objs.size := Heap.lt_size he
  have ht₄ : h₄.get? hp.objs.size = some { cls := .type "tuple", data := .seq #[.int c tk, x] } := by rw [← hh₄, ← hsz]; exact Heap.get?_push_size _ rfl
  have hz₄ : h₄.objs.size = hp.objs.size + 1 := by rw [← hh₄, Heap.size_push, hsz]
  have hk₄ : ∀ b o, b ≠ e → b ≠ it → hp.get? b = some o → h₄.get? b = some o := fun b o hbe hbi hb => by
    rw [← hh₄]; exact Heap.get?_push_of_some _ (hs₃.extBut b o hbe (hs₂.extBut b o hbe (hs₁.extBut b o hbi hb)))
  have hit₄ : SIt t h₄ it l (i + 1) := by
    rw [← hh₄]
    exact ((hit₁.extBut hs₂.extBut (Ne.symm hne)).extBut hs₃.extBut (Ne.symm hne)).at fun o ho => Heap.get?_push_of_some _ ho
  show wpAny _ _ (Builtin.SmallTypes.ownedTupleIsFree (.ref e) >>= _) _ _ ⟨h₄, g, d, tk + 1, os⟩
  rw [hsz]
  clear hh₄ he₃ hs₃ he₂ hs₂ he₁ hs₁ hit₁ hsz h₃ h₂ h₁
  refine wpAny_bind ?_
  · unfold Builtin.SmallTypes.ownedTupleIsFree
    refine wpAny_bind (wpAny_field he₄ rfl (x := .none) rfl (wpAny_pure ?_))
    simp only [if_true]
    refine wpAny_bind (wpAny_rule ?_)
    refine wpAny_bind (wpAny_field he₄ rfl (x := old) rfl ?_)
    refine wpAny_bind (wpAny_setField_rec he₄ (by simp) fun h₅ he₅ hs₅ => ?_)
    replace hs₅ : Heap.SameBut e h₄ h₅ := hs₅
    replace he₅ : IsEnum h₅ e it (c + 1) x := he₅
    show wpAny _ _ (Builtin.SmallTypes.ownedTupleHandOut (.ref e) (.ref hp.objs.size) >>= _) _ _ ⟨h₅, g, d, tk + 1, os⟩
    refine wpAny_bind ?_
    · unfold Builtin.SmallTypes.ownedTupleHandOut
      refine wpAny_bind (wpAny_setField_rec he₅ (by simp) fun h₆ he₆ hs₆ => ?_)
      replace hs₆ : Heap.SameBut e h₅ h₆ := hs₆
      replace he₆ : IsEnumOut h₆ e it (c + 1) x hp.objs.size := he₆
      refine wpAny_setField_rec he₆ (by simp) fun h₇ he₇ hs₇ => ?_
      replace hs₇ : Heap.SameBut e h₆ h₇ := hs₇
      replace he₇ : IsEnumOut h₇ e it (c + 1) x hp.objs.size := he₇
      refine wpAny_bind (wpAny_letGo (wpAny_pure ⟨_, rfl, hQ h₇ he₇ ?_ ?_ ?_ ?_⟩))
      · exact ((hit₄.extBut hs₅.extBut (Ne.symm hne)).extBut hs₆.extBut (Ne.symm hne)).extBut hs₇.extBut (Ne.symm hne)
      · exact hs₇.extBut _ _ (Nat.ne_of_gt hel) (hs₆.extBut _ _ (Nat.ne_of_gt hel) (hs₅.extBut _ _ (Nat.ne_of_gt hel) ht₄))
      · rw [hs₇.1, hs₆.1, hs₅.1, hz₄]
      · exact fun b o hbe hbi hb => hs₇.extBut b o hbe (hs₆.extBut b o hbe (hs₅.extBut b o hbe (hk₄ b o hbe hbi hb)))
theorem pyNext_enumS_item {t : Bool} {e it l : Addr} {i : Nat} {c : Int} {items : Array Value} {x old : Value} {Q : Option Value → Shared → Prop}
    (he : IsEnum s.heap e it c old) (hit : SIt t s.heap it l i) (hl : SSq t s.heap l items) (hx : items[i]? = some x) (hne : e ≠ it)
    (hQ : ∀ h', IsEnumOut h' e it (c + 1) x s.heap.objs.size → SIt t h' it l (i + 1) →
      h'.get? s.heap.objs.size = some { cls := .type "tuple", data := .seq #[.int c s.toks, x] } → h'.objs.size = s.heap.objs.size + 1 →
      (∀ b o, b ≠ e → b ≠ it → s.heap.get? b = some o → h'.get? b = some o) → Q (some (.ref s.heap.objs.size)) { s with heap := h', toks := s.toks + 1 }) :
    wpAny (model prog w) A (pyNext (.ref e)) Q E s := by
  have hT : s.TypeIs (.ref e) "enumerate" := ⟨_, he, rfl⟩
  unfold pyNext
  exact wpAny_bind (wpAny_attempt (wpAny_callSpecial?_slot (name := Str.ofString "__next__") hT F.slot_enumerate_next
    (wpAny_call_entry F.slot_enumerate_next hT F.entry_enumerate_next
      (enumS_item he hit hl hx hne fun h' a b c d k => wpAny_pure (hQ h' a b c d k)) (F.args_enumerate_next_1 _))))
theorem pyNext_enumS_end {t : Bool} {e it l : Addr} {i : Nat} {c : Int} {items : Array Value} {old : Value} {Q : Option Value → Shared → Prop} (hh : A.handled = none)
    (he : IsEnum s.heap e it c old) (hit : SIt t s.heap it l i) (hl : SSq t s.heap l items) (hx : items[i]? = none)
    (hQ : ∀ h', Heap.ExtBut it s.heap h' → Q none { s with heap := h' }) : wpAny (model prog w) A (pyNext (.ref e)) Q E s := by
  have hT : s.TypeIs (.ref e) "enumerate" := ⟨_, he, rfl⟩
  unfold pyNext
  refine wpAny_bind (wpAny_attempt (wpAny_callSpecial?_slot (name := Str.ofString "__next__") hT F.slot_enumerate_next
    (wpAny_call_entry F.slot_enumerate_next hT F.entry_enumerate_next ?_ (F.args_enumerate_next_1 _))))
  show wpAny _ _ (field (.ref e) 2 >>= _) _ _ _
  refine wpAny_bind (wpAny_field he rfl (x := .ref it) rfl ?_)
  refine wpAny_bind (nextOf_end hh hit hl hx fun h' x he' hx' => ?_)
  obtain ⟨o, ho, hc⟩ := hx'
  refine wpAny_bind (wpAny_isInstance (T := "StopIteration") (b := true) ⟨o, ho, hc⟩ isSubtype_stop ?_)
  exact wpAny_pure (hQ _ he')
end
abbrev eH1 (t : Bool) (h : Heap) (l : Addr) : Heap := h.push { cls := .type (itN t), data := .fields #[.ref l, .int 0 0] }
abbrev eH2 (t : Bool) (h : Heap) (l : Addr) : Heap := (eH1 t h l).push { cls := .type "enumerate", data := .fields #[.none, .bool false, .ref h.objs.size, rawInt 1, .none, .none] }
theorem meets_enumS (t : Bool) (l : Addr) (xs : Array Value) (k : Tok) :
    Meets (Builtin.«enumerate.__new__» ⟨[.type "enumerate", .ref l], EK k⟩) (fun _ R s => SSq t s.heap l xs ∧ R (.ok (.ret (.ref (eH1 t s.heap l).objs.size))) { s with heap := eH2 t s.heap l }) :=
  .of_wp fun prog w A R s h => by
    obtain ⟨hp, g, d, tk, os⟩ := s; obtain ⟨hl, h⟩ := h
    have hsub := sub_enumerate
    cases t
    · have hL : Heap.IsList (Shared.heap ⟨hp, g, d, tk, os⟩) l xs := hl
      obtain ⟨o, ho, hc, n, hd⟩ := id hL
      wp_walk using wpAny_loadPart' ho
      refine wpAny_stack_any fun st => wpAny_pure ?_
      split
      · rename_i c _ _ _ _ _
        cases (c == Value.type "enumerate")
        · wp_walk using wpAny_loadPart' ho, wpAny_pyIter_list hL
          exact ⟨_, rfl, h⟩
        · wp_walk using wpAny_loadPart' ho, wpAny_pyIter_list hL
          exact ⟨_, rfl, h⟩
      · wp_walk using wpAny_loadPart' ho, wpAny_pyIter_list hL
        exact ⟨_, rfl, h⟩
    · have hL : Heap.IsTuple (Shared.heap ⟨hp, g, d, tk, os⟩) l xs := hl
      obtain ⟨o, ho, hc, n, hd⟩ := id hL
      wp_walk using wpAny_loadPart' ho
      refine wpAny_stack_any fun st => wpAny_pure ?_
      split
      · rename_i c _ _ _ _ _
        cases (c == Value.type "enumerate")
        · wp_walk using wpAny_loadPart' ho, wpAny_pyIter_tuple hL
          exact ⟨_, rfl, h⟩
        · wp_walk using wpAny_loadPart' ho, wpAny_pyIter_tuple hL
          exact ⟨_, rfl, h⟩
      · wp_walk using wpAny_loadPart' ho, wpAny_pyIter_tuple hL
        exact ⟨_, rfl, h⟩
section
variable {prog : Program} {w : World} {A : Around} {E : Value → Shared → Prop} {s : Shared}
theorem call_enumS {t : Bool} {l : Addr} {xs : Array Value} {k : Tok} {Q : Value → Shared → Prop} (hl : SSq t s.heap l xs)
    (h : ∀ h', IsEnum h' (s.heap.objs.size + 1) s.heap.objs.size 1 .none → SIt t h' s.heap.objs.size l 0 → h'.objs.size = s.heap.objs.size + 2 →
      (∀ b o, s.heap.get? b = some o → h'.get? b = some o) → Q (.ref (s.heap.objs.size + 1)) { s with heap := h' }) :
    wpAny (model prog w) A (call (.type "enumerate") [.ref l] (EK k)) Q E s := by
  refine callType_newK F.called_enumerate (by decide) (by kernel_rfl) (by kernel_rfl) (fun obj => by
      unfold argsOk; rw [signature?_of (id := "object.__init__") (n := ['_', '_', 't', 'i', 'n', 'i', '_', '_']) (o := ['t', 'c', 'e', 'j', 'b', 'o']) (by kernel_rfl) F.owner_object]; kernel_rfl) F.entry_enumerate_new
    (meets_enumS t l xs k) ⟨hl, ?_⟩
  have hz : (eH1 t s.heap l).objs.size = s.heap.objs.size + 1 := Heap.size_push ..
  have he : (eH2 t s.heap l).get? (eH1 t s.heap l).objs.size = some _ := Heap.get?_push_size _ rfl
  have hi : (eH2 t s.heap l).get? s.heap.objs.size = some _ := Heap.get?_push_of_some _ (Heap.get?_push_size _ rfl)
  show _ ∧ _
  rw [hz] at he
  rw [hz]
  refine ⟨⟨_, he, rfl⟩, h _ he ?_ (by rw [Heap.size_push, hz]) fun b o x => Heap.get?_push_of_some _ (Heap.get?_push_of_some _ x)⟩
  cases t
  · exact ⟨_, hi, rfl, rfl⟩
  · exact ⟨_, hi, rfl, rfl⟩
end
/-- the sequence at a as it stands at each turn, each item in a new pair, counted from c0 -/
def IteS (K : PySem.W.Frag) (t : Bool) (c0 : Int) (a : Addr) : It :=
  ⟨fun i H => ∃ (xs : List V) (x : V), Sq t K H a xs ∧ xs[i]? = some x, fun i H v H' => ∃ T x, v = .ref T ∧ H T = none ∧ H' = upd H T (.tup [.int (c0 + (i : Nat)), x]) ∧ ∀ xs, Sq t K H a xs → xs[i]? = some x, fun i H => ∃ xs : List V, Sq t K H a xs ∧ xs.length ≤ i⟩
theorem turn_enumS {P : Program} {w : World} {K : PySem.W.Frag} {elts : List Expr} {kk : Nat} {tpos : Pos} (t : Bool) (c0 : Int) (a e it : Addr) :
    Turn P w K (.Tuple elts kk tpos) (IteS K t c0 a) [e, it] e (fun i h => (∃ old, IsEnum h e it (c0 + (i : Nat)) old) ∧ SIt t h it a i ∧ e ≠ it) where
  mem := by simp
  obj := fun i h st b hb => by
    obtain ⟨⟨old, he⟩, hi, _⟩ := st
    obtain ⟨o, fs, ho, hd⟩ := hi.obj
    have e' : b = e ∨ b = it := by simpa using hb
    rcases e' with z | z
    · rw [z]; exact ⟨_, he, fun v q => nomatch q⟩
    · rw [z]; exact ⟨o, ho, fun v q => by rw [hd] at q; cases q⟩
  keep := fun i h h' st k => let ⟨⟨old, he⟩, hi, hne⟩ := st; ⟨⟨old, k e (by simp) _ he⟩, hi.at fun o q => k it (by simp) o q, hne⟩
  item := by
    intro X hP hw hK hc i pins s σ H E I hf st hg
    subst hP hw hK
    obtain ⟨⟨old, he⟩, hit, hne⟩ := st
    obtain ⟨xs, x, hq, hx⟩ := hg
    obtain ⟨its, rv, p, _⟩ := sq_at I hq
    obtain ⟨u, hu, ru⟩ := rv.get hx
    have hel : e < s.heap.objs.size := Heap.lt_size he
    have hil : it < s.heap.objs.size := by obtain ⟨_, _, q, _⟩ := hit.obj; exact Heap.lt_size q
    refine pyNext_enumS_item he hit p (x := u) (by simpa using hu) hne fun h' ho hit' hT hsz hk => ?_
    refine ⟨_, rfl, wpAny_letOwnedTupleGo_enum (s := { s with heap := h', toks := s.toks + 1 }) ho fun h'' he' sb => ?_⟩
    have hT2 : h''.get? s.heap.objs.size = some { cls := .type "tuple", data := .seq #[.int (c0 + (i : Nat)) s.toks, u] } := (sb.2 _ (Nat.ne_of_gt hel)).trans hT
    have new : ObjOk X.prog X.w (upd H s.heap.objs.size (.tup [.int (c0 + (i : Nat)), x])) h'' s.heap.objs.size (.tup [.int (c0 + (i : Nat)), x]) :=
      ⟨by show 2 ≤ sizeLine; decide, [.int (c0 + (i : Nat)) s.toks, u], .cons ⟨_, rfl⟩ (.cons ru .nil), ⟨_, hT2, rfl, _, rfl⟩⟩
    have I1 : Inv X pins σ (upd H s.heap.objs.size (.tup [.int (c0 + (i : Nat)), x])) { s with heap := h'', toks := s.toks + 1 } :=
      I.turnedNew (ch := [e, it]) (fun b ob hb q => (sb.2 b (fun z => hb (by simp [z]))).trans (hk b ob (fun z => hb (by simp [z])) (fun z => hb (by simp [z])) q)) hf (Nat.le_refl _) new
    refine ⟨.ref s.heap.objs.size, _, I1, rfl, ⟨_, x, rfl, I.hok.fresh (Nat.le_refl _), rfl, fun ys hy => by rw [sq_inj I hy hq]; exact hx⟩, ⟨⟨u, ?_⟩, hit'.at fun o q => (sb.2 it (Ne.symm hne)).trans q, hne⟩, fun b hb => ?_⟩
    · have e1 : c0 + ((i + 1 : Nat) : Int) = c0 + (i : Int) + 1 := by omega
      rw [e1]; exact he'
    · have hb' : b < s.heap.objs.size := by
        have e' : b = e ∨ b = it := by simpa using hb
        rcases e' with z | z
        · rw [z]; exact hel
        · rw [z]; exact hil
      rw [upd_ne (Nat.ne_of_lt hb')]
      exact (hf b hb).1
  done := by
    intro X hP hw hK hc i pins s σ H E I hf st hg
    subst hP hw hK
    obtain ⟨⟨old, he⟩, hit, hne⟩ := st
    obtain ⟨xs, hq, hx⟩ := hg
    obtain ⟨its, rv, p, _⟩ := sq_at I hq
    obtain ⟨f0, f1, f2, f3, f4, f5⟩ := hf it (by simp)
    have hl := rv.length
    exact pyNext_enumS_end (I.ok.hd hc) he hit p (by simp; omega) fun h' eb => ⟨rfl, I.turned (t' := s.toks) (fun b o hb q => eb b o hb q) f0 f1 f3 f4 f5⟩
  self := fun A i s Q E st h => let ⟨⟨_, he⟩, _⟩ := st; wpAny_pyIter_enum he h
def iEnumS (K : PySem.W.Frag) (ta : TA) : TI := fun σ H R => ta σ H fun vs H1 => ∃ t a xs, vs = [.ref a] ∧ Sq t K H1 a xs ∧ R (IteS K t 1 a) H1
theorem pi_enumS {X : Cx} {e : Expr} {ta : TA} {p pos tpos kp cp : Pos} {elts : List Expr} {kk cj : Nat} (hg : Gl X "enumerate") (hm : X.mg "enumerate" = none) (ha : PA X [e] ta) (hs : starEach [e] X.env = [(false, eval e X.env)]) :
    PI X (.Tuple elts kk tpos) (.Call (.Name "enumerate" p) [e] [⟨some "start", .Constant (.int 1) cj cp, kp⟩] pos) (iEnumS X.K ta) := by
  have hk : PK X [⟨some "start", .Constant (.int 1) cj cp, kp⟩] _ := pk_cons (pe_int (i := 1)) pk_nil
  refine ⟨fun pins s σ H R I h => ?_⟩
  refine wpAny_Call_Name_kw (ld_blt I hg hm boot_enumerate ?_)
  refine callWith_typeK (thn (ha.run pos pins s σ H _ I h) fun us s1 ⟨vs, H1, I1, r1, q1⟩ => thn (hk.run pos pins s1 σ H1 (fun zs H2 => H2 = H1 ∧ zs = [.int 1]) I1 ⟨rfl, rfl⟩) fun ws s2 ⟨zs, H2, I2, r2, q2⟩ => ?_) (by rw [hs]; rfl) (by rw [hs]; rfl) rfl rfl
  obtain ⟨rfl, rfl⟩ := q2
  obtain ⟨w1, rfl, e1⟩ := vals1 r2
  obtain ⟨tk, rfl⟩ : ∃ tk, w1 = Value.int 1 tk := e1
  obtain ⟨t, a, xs, ex, hq, q⟩ := q1
  subst ex
  show wpAny _ _ (call (.type "enumerate") us (EK tk)) _ _ _
  cases r1 with
  | cons r rr =>
    cases rr
    cases r
    obtain ⟨its, rv, p', _⟩ := sq_at I2 hq
    refine call_enumS p' fun h' he hit hsz hk => wpAny_pyIter_enum he ?_
    have I3 : Inv X pins σ H2 { s2 with heap := h' } := I2.kept (t' := s2.toks) hk
    refine ⟨s2.heap.objs.size + 1, [s2.heap.objs.size + 1, s2.heap.objs.size], _, _, H2, rfl, I3, turn_enumS t 1 a (s2.heap.objs.size + 1) s2.heap.objs.size, ⟨⟨.none, he⟩, hit, Nat.succ_ne_self _⟩, fun b hb => ?_, q⟩
    have e' : b = s2.heap.objs.size + 1 ∨ b = s2.heap.objs.size := by simpa using hb
    have hle : s2.heap.objs.size ≤ b := by
      rcases e' with z | z
      · rw [z]; exact Nat.le_add_right _ _
      · rw [z]; exact Nat.le_refl _
    exact I2.fpOk hle (I2.hok.fresh hle)
abbrev eH3 (t : Bool) (h : Heap) (l : Addr) : Heap := (eH1 t h l).push { cls := .type "enumerate", data := .fields #[.none, .bool false, .ref h.objs.size, rawInt 0, .none, .none] }
theorem meets_enum0 (t : Bool) (l : Addr) (xs : Array Value) :
    Meets (Builtin.«enumerate.__new__» ⟨[.type "enumerate", .ref l], []⟩) (fun _ R s => SSq t s.heap l xs ∧ R (.ok (.ret (.ref (eH1 t s.heap l).objs.size))) { s with heap := eH3 t s.heap l }) :=
  .of_wp fun prog w A R s h => by
    obtain ⟨hp, g, d, tk, os⟩ := s; obtain ⟨hl, h⟩ := h
    have hsub := sub_enumerate
    cases t
    · have hL : Heap.IsList (Shared.heap ⟨hp, g, d, tk, os⟩) l xs := hl
      obtain ⟨o, ho, hc, n, hd⟩ := id hL
      wp_walk using wpAny_loadPart' ho
      refine wpAny_stack_any fun st => wpAny_pure ?_
      split
      · rename_i c _ _ _ _ _
        cases (c == Value.type "enumerate")
        · wp_walk using wpAny_loadPart' ho, wpAny_pyIter_list hL
          exact ⟨_, rfl, h⟩
        · wp_walk using wpAny_loadPart' ho, wpAny_pyIter_list hL
          exact ⟨_, rfl, h⟩
      · wp_walk using wpAny_loadPart' ho, wpAny_pyIter_list hL
        exact ⟨_, rfl, h⟩
    · have hL : Heap.IsTuple (Shared.heap ⟨hp, g, d, tk, os⟩) l xs := hl
      obtain ⟨o, ho, hc, n, hd⟩ := id hL
      wp_walk using wpAny_loadPart' ho
      refine wpAny_stack_any fun st => wpAny_pure ?_
      split
      · rename_i c _ _ _ _ _
        cases (c == Value.type "enumerate")
        · wp_walk using wpAny_loadPart' ho, wpAny_pyIter_tuple hL
          exact ⟨_, rfl, h⟩
        · wp_walk using wpAny_loadPart' ho, wpAny_pyIter_tuple hL
          exact ⟨_, rfl, h⟩
      · wp_walk using wpAny_loadPart' ho, wpAny_pyIter_tuple hL
        exact ⟨_, rfl, h⟩
section
variable {prog : Program} {w : World} {A : Around} {E : Value → Shared → Prop} {s : Shared}
theorem call_enum0 {t : Bool} {l : Addr} {xs : Array Value} {Q : Value → Shared → Prop} (hl : SSq t s.heap l xs)
    (h : ∀ h', IsEnum h' (s.heap.objs.size + 1) s.heap.objs.size 0 .none → SIt t h' s.heap.objs.size l 0 → h'.objs.size = s.heap.objs.size + 2 →
      (∀ b o, s.heap.get? b = some o → h'.get? b = some o) → Q (.ref (s.heap.objs.size + 1)) { s with heap := h' }) :
    wpAny (model prog w) A (call (.type "enumerate") [.ref l] []) Q E s := by
  refine callType_newK F.called_enumerate (by decide) (by kernel_rfl) (by kernel_rfl) (fun obj => by
      unfold argsOk; rw [signature?_of (id := "object.__init__") (n := ['_', '_', 't', 'i', 'n', 'i', '_', '_']) (o := ['t', 'c', 'e', 'j', 'b', 'o']) (by kernel_rfl) F.owner_object]; kernel_rfl) F.entry_enumerate_new
    (meets_enum0 t l xs) ⟨hl, ?_⟩
  have hz : (eH1 t s.heap l).objs.size = s.heap.objs.size + 1 := Heap.size_push ..
  have he : (eH3 t s.heap l).get? (eH1 t s.heap l).objs.size = some _ := Heap.get?_push_size _ rfl
  have hi : (eH3 t s.heap l).get? s.heap.objs.size = some _ := Heap.get?_push_of_some _ (Heap.get?_push_size _ rfl)
  show _ ∧ _
  rw [hz] at he
  rw [hz]
  refine ⟨⟨_, he, rfl⟩, h _ he ?_ (by rw [Heap.size_push, hz]) fun b o x => Heap.get?_push_of_some _ (Heap.get?_push_of_some _ x)⟩
  cases t
  · exact ⟨_, hi, rfl, rfl⟩
  · exact ⟨_, hi, rfl, rfl⟩
end
def iEnum0 (K : PySem.W.Frag) (ta : TA) : TI := fun σ H R => ta σ H fun vs H1 => ∃ t a xs, vs = [.ref a] ∧ Sq t K H1 a xs ∧ R (IteS K t 0 a) H1
theorem pi_enum0 {X : Cx} {e : Expr} {ta : TA} {p pos tpos : Pos} {elts : List Expr} {kk : Nat} (hg : Gl X "enumerate") (hm : X.mg "enumerate" = none) (ha : PA X [e] ta) (hs : starEach [e] X.env = [(false, eval e X.env)]) :
    PI X (.Tuple elts kk tpos) (.Call (.Name "enumerate" p) [e] [] pos) (iEnum0 X.K ta) := by
  refine ⟨fun pins s σ H R I h => ?_⟩
  refine wpAny_Call_Name_kw (ld_blt I hg hm boot_enumerate ?_)
  refine callWith_typeK (thn (ha.run pos pins s σ H _ I h) fun us s1 ⟨vs, H1, I1, r1, q1⟩ => thn (pk_nil.run pos pins s1 σ H1 (fun zs H2 => H2 = H1 ∧ zs = []) I1 ⟨rfl, rfl⟩) fun ws s2 ⟨zs, H2, I2, r2, q2⟩ => ?_) (by rw [hs]; rfl) (by rw [hs]; rfl) rfl rfl
  obtain ⟨rfl, rfl⟩ := q2
  cases r2
  obtain ⟨t, a, xs, ex, hq, q⟩ := q1
  subst ex
  show wpAny _ _ (call (.type "enumerate") us []) _ _ _
  cases r1 with
  | cons r rr =>
    cases rr
    cases r
    obtain ⟨its, rv, p', _⟩ := sq_at I2 hq
    refine call_enum0 p' fun h' he hit hsz hk => wpAny_pyIter_enum he ?_
    have I3 : Inv X pins σ H2 { s2 with heap := h' } := I2.kept (t' := s2.toks) hk
    refine ⟨s2.heap.objs.size + 1, [s2.heap.objs.size + 1, s2.heap.objs.size], _, _, H2, rfl, I3, turn_enumS t 0 a (s2.heap.objs.size + 1) s2.heap.objs.size, ⟨⟨.none, by simpa using he⟩, hit, Nat.succ_ne_self _⟩, fun b hb => ?_, q⟩
    have e' : b = s2.heap.objs.size + 1 ∨ b = s2.heap.objs.size := by simpa using hb
    have hle : s2.heap.objs.size ≤ b := by
      rcases e' with z | z
      · rw [z]; exact Nat.le_add_right _ _
      · rw [z]; exact Nat.le_refl _
    exact I2.fpOk hle (I2.hok.fresh hle)
end L2.MZ
namespace L2.MZ
open PySem PySem.Spec PyProof.Rows L2 PySem.W
section
variable {prog : Program} {w : World} {A : Around} {E : Value → Shared → Prop} {s : Shared}
theorem unpack_star {t : Bool} {l : Addr} {items : Array Value} {n i : Nat} {Q : List Value → Shared → Prop} (hl : SSq t s.heap l items) (hh : A.handled = none) (hi : i < n) (hn : n ≤ items.size + 1) (hz : items.size ≤ sizeLine)
    (h : ∀ (h₂ : Heap) tk, Heap.ExtBut s.heap.objs.size s.heap h₂ → Q (items.toList.take i ++ [.ref h₂.objs.size] ++ (items.toList.drop i).drop (items.size + 1 - n)) { s with heap := h₂.push { cls := .type "list", data := .seq ((items.toList.drop i).take (items.size + 1 - n)).toArray }, toks := tk }) :
    wpAny (model prog w) A (unpackItems (.ref l) n (some i)) Q E s := by
  have hrl : (items.toList.drop i).length = items.size - i := by rw [List.length_drop, Array.length_toList]
  have hmid : (items.toList.drop i).length - (n - 1 - i) = items.size + 1 - n := by rw [hrl]; omega
  have hfl : (items.toList.take i).length = i := by rw [List.length_take, Array.length_toList]; omega
  have fin : ∀ (h₂ : Heap) tk, Heap.ExtBut s.heap.objs.size s.heap h₂ → wpAny (model prog w) A (newList ((items.toList.drop i).take ((items.toList.drop i).length - (n - 1 - i))) >>= fun d => pure (items.toList.take i ++ [d] ++ (items.toList.drop i).drop ((items.toList.drop i).length - (n - 1 - i)))) Q E { s with heap := h₂, toks := tk } := fun h₂ tk he => by
    rw [hmid]
    exact wpAny_bind (wpAny_newList (wpAny_pure (h h₂ tk he)))
  cases t
  · replace hl : s.heap.IsList l items := hl
    have hlt : l ≠ s.heap.objs.size := by obtain ⟨o, ho, _⟩ := hl; exact Nat.ne_of_lt (Heap.lt_size ho)
    unfold unpackItems
    refine wpAny_bind ?_
    unfold notIterableAtAll
    refine wpAny_bind (wpAny_specialOf hl.typeIs slot_list_iter.lookup ?_)
    refine wpAny_pure ?_
    simp only [Bool.false_eq_true, if_false]
    refine wpAny_bind (wpAny_holding (wpAny_pyIter_list hl ?_))
    refine wpAny_bind (wpAny_holding (kun_draw hlt i 0 _ _ ⟨_, Heap.get?_push_size _ rfl, rfl, rfl⟩ (hl.push _) (by omega) fun h₁ hit₁ hs₁ => ?_))
    have hl₁ : h₁.IsList l items := (hl.push _).extBut hs₁.extBut hlt
    rw [Nat.zero_add] at hit₁
    have hit₁' := hit₁
    obtain ⟨oi, hoi, _⟩ := hit₁'
    have hl₁' := hl₁
    obtain ⟨ol, hol, _⟩ := hl₁'
    rw [List.drop_zero]
    rw [if_neg (show ¬ ((items.toList.take i).length < i) by rw [hfl]; omega)]
    refine wpAny_bind (wpAny_holding (kun_collect (s := { s with heap := h₁ }) (T := "list_iterator") (.inr (.inr (.inl rfl))) (Walks.list (A := A.in1) hh s.heap.objs.size l hlt items) (fun j u st => st.1.typeIs) (k := i) (by omega) ⟨hit₁, hl₁⟩ (Heap.lt_size hoi) (Heap.lt_size hol) (fun h₂ tk hk => ?_) hz))
    show wpAny _ _ (if (items.toList.drop i).length < n - 1 - i then _ else _) _ _ _
    rw [if_neg (by rw [hrl]; omega)]
    exact fin h₂ tk (fun b o hb e => hk b o hb (hs₁.extBut b o hb (Heap.get?_push_of_some _ e)))
  · replace hl : IsTup s.heap l items := hl
    have hlt : l ≠ s.heap.objs.size := by obtain ⟨o, ho, _⟩ := hl; exact Nat.ne_of_lt (Heap.lt_size ho)
    unfold unpackItems
    refine wpAny_bind ?_
    unfold notIterableAtAll
    refine wpAny_bind (wpAny_specialOf hl.typeIs slot_tuple_iter.lookup ?_)
    refine wpAny_pure ?_
    simp only [Bool.false_eq_true, if_false]
    refine wpAny_bind (wpAny_holding (iter_tuple hl ?_))
    refine wpAny_bind (wpAny_holding (draw_tuple hlt i 0 _ _ ⟨_, Heap.get?_push_size _ rfl, rfl, rfl⟩ (hl.push _) (by omega) fun h₁ hit₁ hs₁ => ?_))
    have hl₁ : IsTup h₁ l items := (hl.push _).extBut hs₁.extBut hlt
    rw [Nat.zero_add] at hit₁
    have hit₁' := hit₁
    obtain ⟨oi, hoi, _⟩ := hit₁'
    have hl₁' := hl₁
    obtain ⟨ol, hol, _⟩ := hl₁'
    rw [List.drop_zero]
    rw [if_neg (show ¬ ((items.toList.take i).length < i) by rw [hfl]; omega)]
    refine wpAny_bind (wpAny_holding (kun_collect (s := { s with heap := h₁ }) (T := "tuple_iterator") (.inr (.inr (.inr rfl))) (Walks.tuple (A := A.in1) hh s.heap.objs.size l hlt items) (fun j u st => st.1.typeIs) (k := i) (by omega) ⟨hit₁, hl₁⟩ (Heap.lt_size hoi) (Heap.lt_size hol) (fun h₂ tk hk => ?_) hz))
    show wpAny _ _ (if (items.toList.drop i).length < n - 1 - i then _ else _) _ _ _
    rw [if_neg (by rw [hrl]; omega)]
    exact fin h₂ tk (fun b o hb e => hk b o hb (hs₁.extBut b o hb (Heap.get?_push_of_some _ e)))
end
def gStar (K : PySem.W.Frag) (n i : Nat) (t : TGs) : TG := fun v σ H Q => ∃ b a xs, v = .ref a ∧ Sq b K H a xs ∧ xs.length ≤ sizeLine ∧ n ≤ xs.length + 1 ∧ ∀ D, H D = none → t (xs.take i ++ [.ref D] ++ (xs.drop i).drop (xs.length + 1 - n)) σ (upd H D (.lst ((xs.drop i).take (xs.length + 1 - n)))) Q
theorem pg_star {X : Cx} {pos : Pos} {es : List Expr} {k : Nat} {t : TGs} {n i : Nat} (hc : X.calm = true) (h : PGs X es t)
    (hn : (assignEach es X.env).length = n) (hst : (assignEach es X.env).findIdx? (·.1) = some i) (hi : i < n) : PG X (.Tuple es k pos) (gStar X.K n i t) := by
  refine ⟨fun pins s σ H v u Q I r hw => ?_⟩
  obtain ⟨b, a, xs, e1, hq, hz, hl, hw⟩ := hw
  subst e1
  cases r
  obtain ⟨its, rv, pl, _⟩ := sq_at I hq
  have hsz : xs.length = its.toArray.size := by simp [rv.length]
  rw [PyProof.Rows.assign_Tuple]
  refine wpAny_bind (wpAny_standAt ?_)
  unfold unpack
  rw [hn, hst]
  refine wpAny_bind (wpAny_holding (unpack_star pl (I.ok.hd hc) hi (by rw [← hsz]; exact hl) (by rw [← hsz]; exact hz) fun h₂ tk he => ?_))
  have I1 : Inv X pins σ H { s with heap := h₂, toks := tk } := I.kept (t' := tk) fun b o e => he b o (Nat.ne_of_lt (Heap.lt_size e)) e
  rw [← hsz]
  have rv1 : Vals ((xs.drop i).take (xs.length + 1 - n)) ((its.drop i).take (xs.length + 1 - n)) := (rv.drop i).take _
  have I2 := I1.laid (t' := tk) (a := h₂.objs.size) (o := .lst ((xs.drop i).take (xs.length + 1 - n))) (h' := h₂.push { cls := .type "list", data := .seq ((its.drop i).take (xs.length + 1 - n)).toArray }) (fun b u e => Heap.get?_push_of_some _ e) (Nat.le_refl _) ⟨Nat.le_trans (by simp; omega) hz, _, 0, rv1, Heap.get?_push_size _ rfl⟩
  refine h.run pins _ σ _ (xs.take i ++ [.ref h₂.objs.size] ++ (xs.drop i).drop (xs.length + 1 - n)) _ Q I2 ?_ (hw _ (I1.hok.fresh (Nat.le_refl _)))
  exact (((rv.take i).append (Paired.cons (show RelV (V.ref h₂.objs.size) (Value.ref h₂.objs.size) from rfl) .nil)).append ((rv.drop i).drop _))
end L2.MZ
namespace L2.MP
open PySem PySem.Spec PyProof.Rows
section
variable {cf : Cf} {G : Gl} {C : Nat → List D → Hs → MP.R D} {ec : EC} {k n : Nat} {B : RB} {N : List Str} {sc : Scope} {X : Cx} {e a b c tg : Expr} {es : List Expr} {m ma mb mc mo : E} {ms : List E} {pos p2 p : Pos}
theorem RS.set {r : RC} {sl : Sl} {σ : St} (S : RS r sl σ) {i : Nat} {d : D} {v : V} (h : RV r d v) : RS r (sl.set i (some d)) (σ.set i (some v)) := by
  refine ⟨by rw [List.length_set, List.length_set]; exact S.1, fun j x q => ?_⟩
  rcases getV_set q with ⟨rfl, hx, hl⟩ | ⟨ne, q⟩
  · cases hx
    exact ⟨v, List.getElem?_set_self (by rw [← S.1]; exact hl), h⟩
  · obtain ⟨u, e1, e2⟩ := S.2 j x q
    exact ⟨u, by rw [List.getElem?_set_ne (Ne.symm ne)]; exact e1, e2⟩
theorem RS.unset {r : RC} {sl : Sl} {σ : St} (S : RS r sl σ) (i : Nat) : RS r (sl.set i none) (σ.set i none) := by
  refine ⟨by rw [List.length_set, List.length_set]; exact S.1, fun j x q => ?_⟩
  rcases getV_set q with ⟨rfl, hx, hl⟩ | ⟨ne, q⟩
  · cases hx
  · obtain ⟨u, e1, e2⟩ := S.2 j x q
    exact ⟨u, by rw [List.getElem?_set_ne (Ne.symm ne)]; exact e1, e2⟩
theorem RS.wipe {r : RC} {sl : Sl} {σ : St} (S : RS r sl σ) : ∀ vs : List Nat, RS r (wipeS sl vs) (L2.wipe σ vs)
  | [] => S
  | v :: vs => (RS.wipe S vs).unset v
theorem wipe_set {i : Nat} {x : Option V} : ∀ {vs : List Nat} {σ : St}, i ∈ vs → L2.wipe (σ.set i x) vs = L2.wipe σ vs
  | [], _, h => nomatch h
  | v :: vs, σ, h => by
    show (L2.wipe (σ.set i x) vs).set v none = (L2.wipe σ vs).set v none
    by_cases hv : i ∈ vs
    · rw [wipe_set hv]
    · have : i = v := by
        rcases List.mem_cons.mp h with h | h
        · exact h
        · exact absurd h hv
      subst this
      apply List.ext_getElem?
      intro j
      by_cases hj : j = i
      · subst hj
        rw [List.getElem?_set, List.getElem?_set]
        simp [wipe_length]
      · rw [List.getElem?_set_ne (Ne.symm hj), List.getElem?_set_ne (Ne.symm hj)]
        by_cases hjv : j ∈ vs
        · clear h
          have : ∀ (vs : List Nat) (σ : St), (L2.wipe (σ.set i x) vs)[j]? = (L2.wipe σ vs)[j]? := fun vs σ => by
            induction vs with
            | nil => exact List.getElem?_set_ne (Ne.symm hj)
            | cons w ws ih =>
              show ((L2.wipe (σ.set i x) ws).set w none)[j]? = ((L2.wipe σ ws).set w none)[j]?
              rw [List.getElem?_set, List.getElem?_set, ih, wipe_length, wipe_length, List.length_set]
          exact this vs σ
        · rw [wipe_out hjv, wipe_out hjv]
          exact List.getElem?_set_ne (Ne.symm hj)
/-- a scope's names that may be stored to -/
def Tg (sc' : Scope) (X : Cx) : Prop := ∀ x, sc'.names.lookup x = some .local ∨ sc'.names.lookup x = some .cell → L2.Loc X.env.scope x ∧ (X.fn x = true ∨ X.env.scope.names.lookup x = some .local)
def SndG (X : Cx) (tg : Expr) (t : T) : Prop := ∀ ⦃r : RC⦄ ⦃σ : St⦄ ⦃sl sl' : Sl⦄ ⦃d : D⦄ ⦃v : V⦄ ⦃Q : St → Hp → Prop⦄, r.B.K = X.K → Rep r → RV r d v → RS r sl σ → asgT r.ns t d sl = some sl' →
  (∀ σ', RS r sl' σ' → (∀ vs : List Nat, (∀ i ∈ tIx t, i ∈ vs) → L2.wipe σ' vs = L2.wipe σ vs) → Q σ' r.H) → GM X tg v σ r.H Q
def SndGs (X : Cx) (tgs : List Expr) (ts : List T) : Prop := ∀ ⦃r : RC⦄ ⦃σ : St⦄ ⦃sl sl' : Sl⦄ ⦃ds : List D⦄ ⦃vs : List V⦄ ⦃Q : St → Hp → Prop⦄, r.B.K = X.K → Rep r → RVs r ds vs → RS r sl σ → asgTs r.ns ts ds sl = some sl' →
  (∀ σ', RS r sl' σ' → (∀ vs : List Nat, (∀ i ∈ tIxs ts, i ∈ vs) → L2.wipe σ' vs = L2.wipe σ vs) → Q σ' r.H) → GMs X tgs vs σ r.H Q
def ShG (X : Cx) (tgs : List Expr) (ts : List T) : Prop := ∀ ⦃h : Hs⦄ ⦃ds : List D⦄ ⦃sl sl' : Sl⦄, asgTs h ts ds sl = some sl' → (∀ q ∈ assignEach tgs X.env, q.1 = false) ∧ (assignEach tgs X.env).length = ds.length
theorem sng_nm (hN : X.N.Nodup) {i : Nat} {x : Str} (hi : X.N[i]? = some x) (hl : L2.Loc X.env.scope x) (hf : X.fn x = true ∨ X.env.scope.names.lookup x = some .local) : SndG X (.Name x pos) (.nm i) := by
  intro r σ sl sl' d v Q eK R h S e q
  simp only [asgT, Option.some.injEq] at e
  subst e
  exact GM.of (pg_name hN hi hl hf) (q _ (S.set h) fun vs hv => wipe_set (hv i (by simp [tIx])))
theorem sng_tp {k1 : Nat} {ts : List T} (hc : X.calm = true) (h : SndGs X es ts) (hh : ShG X es ts) : SndG X (.Tuple es k1 pos) (.tp ts) := by
  intro r σ sl sl' d v Q eK R hv S e q
  cases d <;> simp only [asgT] at e <;> first | cases e | skip
  rotate_left
  · rename_i ds
    obtain ⟨a, vs, rfl, h1, h2⟩ := lstV_inv (d := .lst ds) R rfl hv
    obtain ⟨f1, f2⟩ := hh e
    have g := h eK R h2 S e (Q := Q) (fun σ' S' w => q σ' S' fun vs hh => w vs (by simpa only [tIx] using hh))
    exact GM.of (pg_unl (n := (assignEach es X.env).length) hc pgs_gms rfl (List.findIdx?_eq_none_iff.mpr fun q hq => by simp [f1 q hq])) ⟨a, vs, rfl, SqL.of h1, by rw [f2, h2.length], g⟩
  rename_i ds
  obtain ⟨a, vs, rfl, h1, h2⟩ := tup_inv hv
  obtain ⟨f1, f2⟩ := hh e
  have g := h eK R h2 S e (Q := Q) (fun σ' S' w => q σ' S' fun vs hh => w vs (by simpa only [tIx] using hh))
  refine GM.of (pg_tup (n := (assignEach es X.env).length) hc pgs_gms rfl (List.findIdx?_eq_none_iff.mpr fun q hq => by simp [f1 q hq])) ⟨a, vs, rfl, by rw [← eK]; exact h1, by rw [f2, h2.length], g⟩
theorem sng_nil : SndGs X [] [] := by
  intro r σ sl sl' ds vs Q eK R hv S e q
  cases ds with
  | nil =>
    simp only [asgTs, Option.some.injEq] at e
    subst e
    rw [RVs.invN hv]
    exact GMs.of pgs_nil ⟨rfl, q σ S fun _ _ => rfl⟩
  | cons x xs => simp [asgTs] at e
theorem shg_nil : ShG X [] [] := by
  intro h ds sl sl' e
  cases ds with
  | nil => exact ⟨fun _ z => (nomatch z), rfl⟩
  | cons x xs => simp [asgTs] at e
theorem shg_cons {t : T} {ts : List T} (hs : ∀ u p, e = .Starred u p → ∀ h d sl, asgT h t d sl = none) (h2 : ShG X es ts) : ShG X (e :: es) (t :: ts) ∧ ∀ h d sl sl', asgT h t d sl = some sl' → assignEach (e :: es) X.env = (false, assign e X.env) :: assignEach es X.env := by
  have hst : ∀ h d sl sl', asgT h t d sl = some sl' → assignEach (e :: es) X.env = (false, assign e X.env) :: assignEach es X.env := fun h d sl sl' e1 => by
    cases e <;> first | rfl | skip
    rename_i u p
    rw [hs u p rfl] at e1
    cases e1
  refine ⟨?_, hst⟩
  intro h ds sl sl' ee
  cases ds with
  | nil => simp [asgTs] at ee
  | cons d ds =>
    simp only [asgTs] at ee
    obtain ⟨sl1, e1, e2⟩ := of_bind ee
    obtain ⟨f1, f2⟩ := h2 e2
    rw [hst _ _ _ _ e1]
    refine ⟨fun q hq => ?_, by simp [f2]⟩
    rcases List.mem_cons.mp hq with rfl | hq
    · rfl
    · exact f1 q hq
theorem sng_cons {t : T} {ts : List T} (hs : ∀ h d sl sl', asgT h t d sl = some sl' → assignEach (e :: es) X.env = (false, assign e X.env) :: assignEach es X.env) (h1 : SndG X e t) (h2 : SndGs X es ts) : SndGs X (e :: es) (t :: ts) := by
  intro r σ sl sl' ds vs Q eK R hv S ee q
  cases ds with
  | nil => simp [asgTs] at ee
  | cons d ds =>
    simp only [asgTs] at ee
    obtain ⟨sl1, e1, e2⟩ := of_bind ee
    obtain ⟨v, ws, rfl, v1, v2⟩ := RVs.inv hv
    refine GMs.of (pgs_cons pg_gm pgs_gms (by rw [hs _ _ _ _ e1]; rfl)) ⟨v, ws, rfl, h1 eK R v1 S e1 fun σ1 S1 w1 => ?_⟩
    exact h2 eK R v2 S1 e2 (Q := Q) fun σ2 S2 w2 => q σ2 S2 fun vs hh => by
      rw [w2 vs fun i hi => hh i (by simp [tIxs, hi]), w1 vs fun i hi => hh i (by simp [tIxs, hi])]
/-- a target of the text -/
theorem trT_snd (hN : X.N.Nodup) (eN : X.N = N) (hc : X.calm = true) (hT : Tg sc X) : ∀ (n : Nat) (tg : Expr) (t : T) (nd : Bool), trT nd n N sc tg = some t → SndG X tg t
  | 0, _, _, _, h => by cases h
  | n + 1, tg, t, nd, h => by
    have nm : ∀ {x : Str} {i : Nat} {p : Pos} {kd : NameKind}, sc.names.lookup x = some kd → (kd = .local ∨ kd = .cell) → ixOf N x = some i → SndG X (.Name x p) (.nm i) := fun {x i p kd} h1 h2 h3 => by
      have hx : sc.names.lookup x = some .local ∨ sc.names.lookup x = some .cell := by
        rcases h2 with rfl | rfl
        · exact .inl h1
        · exact .inr h1
      obtain ⟨k1, k2⟩ := hT x hx
      exact sng_nm hN (by rw [eN]; exact ixOf_get h3) k1 k2
    have all : ∀ (m : Nat), m ≤ n → ∀ (es : List Expr) (ts : List T), trTs nd m N sc es = some ts → SndGs X es ts ∧ ShG X es ts := fun m => by
      induction m with
      | zero => intro _ es ts h; cases h
      | succ m ih =>
        intro hm es ts h
        cases es with
        | nil =>
          unfold trTs at h
          cases h
          exact ⟨sng_nil, shg_nil⟩
        | cons e es =>
          unfold trTs at h
          obtain ⟨t1, h1, h⟩ := of_bind h
          obtain ⟨ts1, h2, h⟩ := of_bind h
          cases h
          obtain ⟨i1, i2⟩ := ih (by omega) es ts1 h2
          have g1 : SndG X e t1 := by
            have : m < n + 1 := by omega
            exact trT_snd hN eN hc hT m e t1 nd h1
          have st : ∀ u p, e = .Starred u p → ∀ h d sl, asgT h t1 d sl = none := fun u p ee hh d sl => by
            subst ee
            cases m with
            | zero => cases h1
            | succ m =>
              unfold trT at h1
              split at h1
              all_goals first | (rename_i he; cases he; done) | skip
              · rename_i he _ _
                cases he
                split at h1
                · obtain ⟨i, _, rfl⟩ := Option.map_eq_some_iff.mp h1
                  rfl
                · cases h1
              · cases h1
          obtain ⟨j1, j2⟩ := shg_cons (X := X) st i2
          exact ⟨sng_cons j2 g1 i1, j1⟩
    unfold trT at h
    split at h
    · split at h
      · rename_i hl
        obtain ⟨i, hi, rfl⟩ := Option.map_eq_some_iff.mp h
        exact nm hl (.inl rfl) hi
      · rename_i hl
        obtain ⟨i, hi, rfl⟩ := Option.map_eq_some_iff.mp h
        exact nm hl (.inr rfl) hi
      · cases h
    · obtain ⟨ts, h1, rfl⟩ := Option.map_eq_some_iff.mp h
      obtain ⟨i1, i2⟩ := all n (Nat.le_refl _) _ _ h1
      exact sng_tp hc i1 i2
    · split at h
      · obtain ⟨i, _, rfl⟩ := Option.map_eq_some_iff.mp h
        intro r σ sl sl' d v Q eK R hv S e q
        simp [asgT] at e
      · cases h
    · cases h
end
end L2.MP
namespace L2.MP
open PySem PySem.Spec PyProof.Rows
section
variable {cf : Cf} {G : Gl} {C : Nat → List D → Hs → MP.R D} {ec : EC} {k n : Nat} {B : RB} {N : List Str} {sc : Scope} {X : Cx} {e a b c tg : Expr} {es : List Expr} {m ma mb mc mo : E} {ms : List E} {pos p2 p : Pos}
theorem seqV_ext {r r1 : RC} (R : Rep r) (e : Ext0 r r1) (R1 : Rep r1) {x : D} {xs : List D} {v : V} (h : seqV r.ns x = some xs) (q : RV r x v) (hc : chk (srcOf x xs) r1.ns = true) : seqV r1.ns x = some xs ∧ RV r1 x v := by
  refine ⟨?_, RV.ext0 R e q⟩
  cases x with
  | tup ys => exact h
  | lst ys => exact h
  | ref i =>
    simp only [srcOf, chk, List.all_cons, List.all_nil, Bool.and_true] at hc
    simp only [seqV]
    split at hc
    · rename_i ys hy
      rw [hy]
      exact congrArg some (of_decide_eq_true hc)
    · cases hc
  | _ => cases h
theorem itr_list {r : RC} (R : Rep r) {x : D} {xs : List D} {ad : Addr} {K : PySem.W.Frag} (eK : r.B.K = K) (h : seqV r.ns x = some xs) (q : RV r x (.ref ad)) (ht : ∀ ys, x ≠ .tup ys) : ItR r (xs, srcOf x xs) (Itl K ad) := by
  intro r1 e R1 hc i
  obtain ⟨h1, q1⟩ := seqV_ext R e R1 h q hc
  have hl : lstV r1.ns x = some xs := by
    cases x with
    | tup ys => exact absurd rfl (ht ys)
    | lst ys => exact h1
    | ref i => exact h1
    | _ => cases h1
  obtain ⟨a', ws, ea, p1, p2⟩ := lstV_inv R1 hl q1
  cases ea
  have sq : SqL K r1.H ad ws := SqL.of p1
  refine ⟨fun y hy => ?_, fun hi => ⟨ws, sq, by rw [← p2.length]; exact hi⟩⟩
  obtain ⟨u, hu, ru⟩ := p2.get hy
  refine ⟨⟨ws, u, sq, hu⟩, fun v H' ⟨eH, hv⟩ => ?_⟩
  have := hv ws sq
  rw [hu] at this
  cases this
  exact ⟨r1, eH.symm, Ext.refl r1, R1, rfl, ru⟩
theorem itr_tup {r : RC} (R : Rep r) {xs : List D} {ad : Addr} {K : PySem.W.Frag} (eK : r.B.K = K) (q : RV r (.tup xs) (.ref ad)) : ItR r (xs, []) (Itt K ad) := by
  intro r1 e R1 hc i
  obtain ⟨a', ws, ea, p1, p2⟩ := tup_inv (RV.ext0 R e q)
  cases ea
  have sq : SqT K r1.H ad ws := by rw [← eK, ← e.B]; exact p1
  refine ⟨fun y hy => ?_, fun hi => ⟨ws, sq, by rw [← p2.length]; exact hi⟩⟩
  obtain ⟨u, hu, ru⟩ := p2.get hy
  refine ⟨⟨ws, u, sq, hu⟩, fun v H' ⟨eH, hv⟩ => ?_⟩
  have := hv ws sq
  rw [hu] at this
  cases this
  exact ⟨r1, eH.symm, Ext.refl r1, R1, rfl, ru⟩
theorem itr_str {r : RC} {s : List Nat} (o : okS s) : ItR r (s.map fun c => .str [c], []) (Its ⟨s.toArray⟩) := by
  intro r1 e R1 hc i
  refine ⟨fun y hy => ?_, fun hi => ?_⟩
  · simp only [List.getElem?_map, Option.map_eq_some_iff] at hy
    obtain ⟨c, hc, rfl⟩ := hy
    refine ⟨?_, fun v H' ⟨eH, c', hc', ev⟩ => ?_⟩
    · show i < (⟨s.toArray⟩ : Str).cps.size
      simpa using get_lt hc
    · have : s[i]? = some c' := by simpa using hc'
      rw [hc] at this
      cases this
      subst ev
      exact ⟨r1, eH.symm, Ext.refl r1, R1, rfl, mk_str (s := [c]) fun z hz => by
        rw [List.mem_singleton] at hz
        subst hz
        exact o z (List.mem_of_getElem? hc)⟩
  · show (⟨s.toArray⟩ : Str).cps.size ≤ i
    simpa using hi
theorem itr_range {r : RC} {lo : Int} {n : Nat} : ItR r (rangeL lo n, []) (Itr lo n) := by
  intro r1 e R1 hc i
  refine ⟨fun y hy => ?_, fun hi => ?_⟩
  · simp only [rangeL, List.getElem?_map, Option.map_eq_some_iff] at hy
    obtain ⟨j, hj, rfl⟩ := hy
    have hl : i < n := by simpa using get_lt hj
    rw [List.getElem?_range hl] at hj
    cases hj
    exact ⟨hl, fun v H' ⟨eH, ev⟩ => ⟨r1, eH.symm, Ext.refl r1, R1, rfl, by rw [ev]; exact mk_int _⟩⟩
  · show n ≤ i
    simpa [rangeL] using hi
theorem sni_ex (g0 : XG cf G C ec k B N sc X) (ha : SndE G C ec B X a ma) : SndI G C ec B X tg a (.ex ma) := by
  intro W tk σ r sl Q eB R S g
  have eK : X.K = r.B.K := by rw [g0.eK, eB]
  simp only [evI] at g
  cases ev : evE G C ma sl r.ns with
  | bad => rw [ev] at g; exact False.elim g
  | exc c fs h1 =>
    rw [ev] at g
    have hq : TM X a σ r.H fun _ _ => False := ha tk eB R S (by rw [ev]; exact g)
    exact IM.of (pi_list pe_tm) (hq.mono fun _ _ z => False.elim z)
  | ok x h1 =>
    rw [ev] at g
    have hq : ∀ Q' : VK, (∀ v r1, r1.ns = h1 → Ext r r1 → Rep r1 → RV r1 x v → Q' v r1.H) → TM X a σ r.H Q' := fun Q' q => ha tk eB R S (by rw [ev]; exact fun r1 v n e R1 rv => q v r1 n e R1 rv)
    simp only [MP.R.bind] at g
    cases x with
    | str s =>
      refine IM.of (pi_str pe_tm) (hq _ fun v r1 n1 e1 R1 q1 => ?_)
      obtain ⟨rfl, o⟩ := rv_str q1
      exact ⟨_, rfl, g r1 _ n1 e1 R1 (itr_str o)⟩
    | tup xs =>
      refine IM.of (pi_tup pe_tm) (hq _ fun v r1 n1 e1 R1 q1 => ?_)
      obtain ⟨ad, ws, rfl, p1, p2⟩ := tup_inv q1
      have eK1 : r1.B.K = X.K := by rw [e1.B, ← eK]
      exact ⟨ad, rfl, ⟨ws, by rw [← eK1]; exact p1⟩, g r1 _ n1 e1 R1 (itr_tup R1 eK1 q1)⟩
    | lst xs =>
      refine IM.of (pi_list pe_tm) (hq _ fun v r1 n1 e1 R1 q1 => ?_)
      obtain ⟨ad, ws, rfl, p1, p2⟩ := lstV_inv (d := .lst xs) R1 rfl q1
      have eK1 : r1.B.K = X.K := by rw [e1.B, ← eK]
      exact ⟨ad, rfl, ⟨ws, SqL.of p1⟩, g r1 _ n1 e1 R1 (itr_list (x := .lst xs) R1 eK1 rfl q1 fun _ z => nomatch z)⟩
    | ref i =>
      cases hs : seqV h1 (.ref i) with
      | none => rw [hs] at g; exact False.elim g
      | some xs =>
        rw [hs] at g
        refine IM.of (pi_list pe_tm) (hq _ fun v r1 n1 e1 R1 q1 => ?_)
        subst n1
        obtain ⟨ad, ws, rfl, p1, p2⟩ := lstV_inv (d := .ref i) R1 hs q1
        have eK1 : r1.B.K = X.K := by rw [e1.B, ← eK]
        exact ⟨ad, rfl, ⟨ws, SqL.of p1⟩, g r1 _ rfl e1 R1 (itr_list (x := .ref i) R1 eK1 hs q1 fun _ z => nomatch z)⟩
    | _ => exact False.elim g
theorem enumL_get : ∀ {xs : List D} {k : Int} {i : Nat} {y : D}, (enumL k xs)[i]? = some y → ∃ x, xs[i]? = some x ∧ y = .tup [.int (k + i), x]
  | [], k, i, y, h => by simp [enumL] at h
  | x :: xs, k, 0, y, h => by
    simp only [enumL, List.getElem?_cons_zero, Option.some.injEq] at h
    exact ⟨x, rfl, by rw [← h]; simp⟩
  | x :: xs, k, i + 1, y, h => by
    simp only [enumL, List.getElem?_cons_succ] at h
    obtain ⟨z, h1, h2⟩ := enumL_get h
    refine ⟨z, by simpa using h1, ?_⟩
    rw [h2]
    congr 3
    push_cast
    omega
theorem enumL_len : ∀ {xs : List D} {k : Int}, (enumL k xs).length = xs.length
  | [], _ => rfl
  | x :: xs, k => by simp [enumL, enumL_len]
def tOf : D → Bool
  | .tup _ => true
  | _ => false
theorem seqS {r : RC} (R : Rep r) {x : D} {xs : List D} {v : V} (h : seqV r.ns x = some xs) (q : RV r x v) : ∃ ad vs, v = .ref ad ∧ MZ.Sq (tOf x) r.B.K r.H ad vs ∧ RVs r xs vs := by
  cases x with
  | tup ys =>
    cases h
    obtain ⟨a, vs, rfl, h1, h2⟩ := tup_inv q
    exact ⟨a, vs, rfl, h1, h2⟩
  | lst ys =>
    obtain ⟨a, vs, rfl, h1, h2⟩ := lstV_inv (d := .lst ys) R h q
    exact ⟨a, vs, rfl, SqL.of h1, h2⟩
  | ref i =>
    obtain ⟨a, vs, rfl, h1, h2⟩ := lstV_inv (d := .ref i) R h q
    exact ⟨a, vs, rfl, SqL.of h1, h2⟩
  | _ => cases h
theorem itr_enum {r : RC} (R : Rep r) {x : D} {xs : List D} {ad : Addr} {K : PySem.W.Frag} (eK : r.B.K = K) (c0 : Int) (h : seqV r.ns x = some xs) (q : RV r x (.ref ad)) : ItR r (enumL c0 xs, srcOf x xs) (MZ.IteS K (tOf x) c0 ad) := by
  intro r1 e R1 hc i
  obtain ⟨h1, q1⟩ := seqV_ext R e R1 h q hc
  obtain ⟨a', ws, ea, sq, p2⟩ := seqS R1 h1 q1
  cases ea
  have eK1 : r1.B.K = K := by rw [e.B]; exact eK
  rw [eK1] at sq
  refine ⟨fun y hy => ?_, fun hi => ⟨ws, sq, by rw [← p2.length, ← enumL_len (k := c0)]; exact hi⟩⟩
  obtain ⟨z, hz, rfl⟩ := enumL_get hy
  obtain ⟨u, hu, ru⟩ := p2.get hz
  refine ⟨⟨ws, u, sq, hu⟩, fun v H' ⟨T, w, ev, hT, eH, hv⟩ => ?_⟩
  have := hv ws sq
  rw [hu] at this
  cases this
  subst ev eH
  obtain ⟨e', R', q'⟩ := new_tup R1 hT (RVs.cons (mk_int (c0 + (i : Int))) (RVs.cons ru RVs.nil))
  exact ⟨_, rfl, e', R', rfl, q'⟩
theorem sni_enum (g0 : XG cf G C ec k B N sc X) {elts : List Expr} {kk : Nat} {tpos : Pos} (hg : glo? sc "enumerate" = true) (hf : ixOf cf.fns "enumerate" = none) (hx : ixOf cf.exs "enumerate" = none) (he : starEach [a] X.env = [(false, eval a X.env)])
    (ha : SndE G C ec B X a ma) : SndI G C ec B X (.Tuple elts kk tpos) (.Call (.Name "enumerate" p) [a] [] pos) (.enum ma 0) := by
  intro W tk σ r sl Q eB R S g
  simp only [evI] at g
  refine IM.of (MZ.pi_enum0 (glo_gl g0 hg) (g0.wf.bi _ (by decide +kernel) hf hx) (pa_cons pe_tm pa_nil he) he) (ha tk eB R S (g.step fun x h1 r1 v1 _ n1 e1 R1 q1 g1 => ?_))
  subst n1
  obtain ⟨xs, hl, g1⟩ := Good.of g1
  obtain ⟨ad, ws, rfl, p1, p2⟩ := seqS R1 hl q1
  have eK : r1.B.K = X.K := by rw [e1.B, eB, g0.eK]
  exact ⟨_, ad, ws, rfl, by rw [← eK]; exact p1, g1 r1 _ rfl (Ext.refl r1) R1 (itr_enum R1 eK 0 hl q1)⟩
theorem sni_enum1 (g0 : XG cf G C ec k B N sc X) {elts : List Expr} {kk cj : Nat} {tpos cp kp : Pos} (hg : glo? sc "enumerate" = true) (hf : ixOf cf.fns "enumerate" = none) (hx : ixOf cf.exs "enumerate" = none) (he : starEach [a] X.env = [(false, eval a X.env)])
    (ha : SndE G C ec B X a ma) : SndI G C ec B X (.Tuple elts kk tpos) (.Call (.Name "enumerate" p) [a] [⟨some "start", .Constant (.int 1) cj cp, kp⟩] pos) (.enum ma 1) := by
  intro W tk σ r sl Q eB R S g
  simp only [evI] at g
  refine IM.of (MZ.pi_enumS (glo_gl g0 hg) (g0.wf.bi _ (by decide +kernel) hf hx) (pa_cons pe_tm pa_nil he) he) (ha tk eB R S (g.step fun x h1 r1 v1 _ n1 e1 R1 q1 g1 => ?_))
  subst n1
  obtain ⟨xs, hl, g1⟩ := Good.of g1
  obtain ⟨ad, ws, rfl, p1, p2⟩ := seqS R1 hl q1
  have eK : r1.B.K = X.K := by rw [e1.B, eB, g0.eK]
  exact ⟨_, ad, ws, rfl, by rw [← eK]; exact p1, g1 r1 _ rfl (Ext.refl r1) R1 (itr_enum R1 eK 1 hl q1)⟩
theorem zipL_get : ∀ {xs ys : List D} {i : Nat} {z : D}, (zipL xs ys)[i]? = some z → ∃ x y, xs[i]? = some x ∧ ys[i]? = some y ∧ z = .tup [x, y]
  | [], _, _, _, h => by simp [zipL] at h
  | _ :: _, [], _, _, h => by simp [zipL] at h
  | x :: xs, y :: ys, 0, z, h => by
    simp only [zipL, List.getElem?_cons_zero, Option.some.injEq] at h
    exact ⟨x, y, rfl, rfl, h.symm⟩
  | x :: xs, y :: ys, i + 1, z, h => by
    simp only [zipL, List.getElem?_cons_succ] at h
    obtain ⟨a, b, h1, h2, h3⟩ := zipL_get h
    exact ⟨a, b, by simpa using h1, by simpa using h2, h3⟩
theorem zipL_len : ∀ {xs ys : List D}, xs.length = ys.length → (zipL xs ys).length = xs.length
  | [], [], _ => rfl
  | [], _ :: _, h => by simp at h
  | _ :: _, [], h => by simp at h
  | x :: xs, y :: ys, h => by simp [zipL, zipL_len (xs := xs) (ys := ys) (by simpa using h)]
theorem chk_app {s t : Src} {h : Hs} (e : chk (s ++ t) h = true) : chk s h = true ∧ chk t h = true := by
  simpa [chk, List.all_append, Bool.and_eq_true] using e
theorem itr_zip {r : RC} (R : Rep r) {x y : D} {xs ys : List D} {a b : Addr} {K : PySem.W.Frag} (eK : r.B.K = K) (h1 : seqV r.ns x = some xs) (h2 : seqV r.ns y = some ys) (q1 : RV r x (.ref a)) (q2 : RV r y (.ref b)) (hl : xs.length = ys.length) :
    ItR r (zipL xs ys, srcOf x xs ++ srcOf y ys) (MZ.ItzS K (tOf x) (tOf y) a b) := by
  intro r1 e R1 hc i
  obtain ⟨c1, c2⟩ := chk_app hc
  obtain ⟨k1, p1⟩ := seqV_ext R e R1 h1 q1 c1
  obtain ⟨k2, p2⟩ := seqV_ext R e R1 h2 q2 c2
  obtain ⟨_, vs, ea, s1, r1'⟩ := seqS R1 k1 p1
  obtain ⟨_, ws, eb, s2, r2'⟩ := seqS R1 k2 p2
  cases ea
  cases eb
  have eK1 : r1.B.K = K := by rw [e.B]; exact eK
  rw [eK1] at s1 s2
  refine ⟨fun z hz => ?_, fun hi => ?_⟩
  · obtain ⟨u, v, hu, hv, rfl⟩ := zipL_get hz
    obtain ⟨u', hu', ru⟩ := r1'.get hu
    obtain ⟨v', hv', rv⟩ := r2'.get hv
    refine ⟨⟨vs, ws, u', v', s1, s2, hu', hv'⟩, fun w H' ⟨T, f, g, ew, hT, eH, f1, f2⟩ => ?_⟩
    have e1 := f1 vs s1
    have e2 := f2 ws s2
    rw [hu'] at e1
    rw [hv'] at e2
    cases e1
    cases e2
    subst ew eH
    obtain ⟨e', R', q'⟩ := new_tup R1 hT (RVs.cons ru (RVs.cons rv RVs.nil))
    exact ⟨_, rfl, e', R', rfl, q'⟩
  · have hz := zipL_len hl
    simp only at hi
    exact ⟨vs, ws, s1, s2, by rw [← r1'.length]; omega, by rw [← r2'.length]; omega⟩
theorem sni_zip (g0 : XG cf G C ec k B N sc X) {elts : List Expr} {kk cj : Nat} {tpos cp kp : Pos} (hg : glo? sc "zip" = true) (hf : ixOf cf.fns "zip" = none) (hx : ixOf cf.exs "zip" = none) (he : starEach [a, b] X.env = [(false, eval a X.env), (false, eval b X.env)]) (he2 : starEach [b] X.env = [(false, eval b X.env)])
    (ha : SndE G C ec B X a ma) (hb : SndE G C ec B X b mb) : SndI G C ec B X (.Tuple elts kk tpos) (.Call (.Name "zip" p) [a, b] [⟨some "strict", .Constant (.bool true) cj cp, kp⟩] pos) (.zip ma mb) := by
  intro W tk σ r sl Q eB R S g
  simp only [evI] at g
  refine IM.of (MZ.pi_zipS (glo_gl g0 hg) (g0.wf.bi _ (by decide +kernel) hf hx) (pa_cons pe_tm (pa_cons pe_tm pa_nil he2) (by rw [he, he2])) (by rw [he, he2]; rfl) (by rw [he]; rfl)) (ha tk eB R S (g.step fun x h1 r1 v1 _ n1 e1 R1 q1 g1 => ?_))
  subst n1
  refine hb tk (e1.B.trans eB) R1 (S.ext R e1) (g1.step fun y h2 r2 v2 _ n2 e2 R2 q2 g2 => ?_)
  subst n2
  obtain ⟨xs, hl1, g2⟩ := Good.of g2
  obtain ⟨ys, hl2, g2⟩ := Good.of g2
  obtain ⟨hle, g2⟩ := Good.ite g2
  have eK : r2.B.K = X.K := by rw [e2.B, e1.B, eB, g0.eK]
  have q1' := RV.ext R1 e2 q1
  obtain ⟨ad, vs, rfl, s1, _⟩ := seqS R2 hl1 q1'
  obtain ⟨bd, ws, rfl, s2, _⟩ := seqS R2 hl2 q2
  exact ⟨_, _, ad, bd, vs, ws, rfl, by rw [← eK]; exact s1, by rw [← eK]; exact s2, g2 r2 _ rfl (Ext.refl r2) R2 (itr_zip R2 eK hl1 hl2 q1' q2 hle)⟩
theorem sni_rng2 (g0 : XG cf G C ec k B N sc X) (hg : glo? sc "range" = true) (hf : ixOf cf.fns "range" = none) (hx : ixOf cf.exs "range" = none) (he : starEach [a, b] X.env = [(false, eval a X.env), (false, eval b X.env)]) (he2 : starEach [b] X.env = [(false, eval b X.env)])
    (ha : SndE G C ec B X a ma) (hb : SndE G C ec B X b mb) : SndI G C ec B X tg (.Call (.Name "range" p) [a, b] [] pos) (.range ma mb) := by
  intro W tk σ r sl Q eB R S g
  simp only [evI] at g
  refine IM.of (pi_range2 (glo_gl g0 hg) (g0.wf.bi _ (by decide +kernel) hf hx) (pa_cons pe_tm (pa_cons pe_tm pa_nil he2) (by rw [he, he2])) he he2) (ha tk eB R S (g.step fun x h1 r1 v1 _ n1 e1 R1 q1 g1 => ?_))
  subst n1
  refine hb tk (e1.B.trans eB) R1 (S.ext R e1) (g1.step fun y h2 r2 v2 _ n2 e2 R2 q2 g2 => ?_)
  subst n2
  split at g2
  · obtain ⟨hz, g2⟩ := Good.ite g2
    rw [rv_int q1, rv_int q2]
    exact ⟨_, _, rfl, by omega, g2 r2 _ rfl (Ext.refl r2) R2 itr_range⟩
  · exact False.elim g2
theorem sni_rng1 (g0 : XG cf G C ec k B N sc X) (hg : glo? sc "range" = true) (hf : ixOf cf.fns "range" = none) (hx : ixOf cf.exs "range" = none) (he : starEach [a] X.env = [(false, eval a X.env)])
    (ha : SndE G C ec B X a ma) : SndI G C ec B X tg (.Call (.Name "range" p) [a] [] pos) (.range (.cst (.int 0)) ma) := by
  intro W tk σ r sl Q eB R S g
  simp only [evI, evE] at g
  refine IM.of (pi_range1 (glo_gl g0 hg) (g0.wf.bi _ (by decide +kernel) hf hx) (pa_cons pe_tm pa_nil he) he) (ha tk eB R S (Good.step (f := fun y h => match y with
    | .int j => if -1000000 ≤ (0 : Int) ∧ (0 : Int) ≤ 1000000 ∧ -1000000 ≤ j ∧ j ≤ 1000000 then .ok (rangeL 0 (j - 0).toNat, []) h else .bad
    | _ => .bad) (rel2 := ItR) (Q2 := Q) ?_ fun y h2 r2 v2 _ n2 e2 R2 q2 g2 => ?_))
  · have e : ∀ x : MP.R D, (x.bind fun y h => match (D.int 0), y with
      | .int i, .int j => if -1000000 ≤ i ∧ i ≤ 1000000 ∧ -1000000 ≤ j ∧ j ≤ 1000000 then MP.R.ok (rangeL i (j - i).toNat, ([] : Src)) h else .bad
      | _, _ => .bad) = x.bind fun y h => match y with
      | .int j => if -1000000 ≤ (0 : Int) ∧ (0 : Int) ≤ 1000000 ∧ -1000000 ≤ j ∧ j ≤ 1000000 then .ok (rangeL 0 (j - 0).toNat, []) h else .bad
      | _ => .bad := fun x => by
      congr 1
      funext y h
      cases y <;> rfl
    rw [← e]
    exact g
  · subst n2
    split at g2
    · obtain ⟨hz, g2⟩ := Good.ite g2
      rw [rv_int q2]
      refine ⟨_, rfl, by omega, by omega, ?_⟩
      rw [Int.sub_zero] at g2
      exact g2 r2 _ rfl (Ext.refl r2) R2 itr_range
    · exact False.elim g2
end
end L2.MP
namespace L2.MP
open PySem PySem.Spec PyProof.Rows
section
variable {cf : Cf} {G : Gl} {C : Nat → List D → Hs → MP.R D} {ec : EC} {k n : Nat} {B : RB} {N : List Str} {sc scope : Scope} {X : Cx} {e a b c tg iter elt : Expr} {es ifs : List Expr} {m ma mb mc mo me : E} {ms : List E} {pos p2 p : Pos}
theorem wipe_in {σ : St} {j : Nat} : ∀ {vs : List Nat}, j ∈ vs → (L2.wipe σ vs)[j]? = if j < σ.length then some none else none
  | [], h => nomatch h
  | v :: vs, h => by
    show ((L2.wipe σ vs).set v none)[j]? = _
    by_cases hv : v = j
    · subst hv
      rw [List.getElem?_set, if_pos rfl, wipe_length]
    · rw [List.getElem?_set_ne hv]
      exact wipe_in ((List.mem_cons.mp h).resolve_left (Ne.symm hv))
theorem wipe_idem {σ : St} {vs : List Nat} : L2.wipe (L2.wipe σ vs) vs = L2.wipe σ vs := by
  apply List.ext_getElem?
  intro j
  by_cases h : j ∈ vs
  · rw [wipe_in h, wipe_in h, wipe_length]
  · rw [wipe_out h]
theorem lookup_relS {sc : Scope} {kd : NameKind} (hk : kd ≠ .free) : ∀ {names : List (Str × NameKind)} {x : Str}, names.lookup x = some kd →
    (names.map fun y => match y with | (n, k) => if (k == NameKind.free && sc.kind == .function && sc.names.lookup n == some .cell) = true then (n, NameKind.cell) else (n, k)).lookup x = some kd
  | [], x, h => by simp at h
  | (n, k) :: r, x, h => by
    have ih := @lookup_relS sc kd hk r x
    simp only [List.map_cons]
    cases hx : x == n with
    | true =>
      simp only [List.lookup, hx, Option.some.injEq] at h
      subst h
      have : (k == NameKind.free) = false := by cases k <;> first | rfl | exact absurd rfl hk
      rw [this]
      simp [List.lookup, hx]
    | false =>
      simp only [List.lookup, hx] at h
      split <;> simp only [List.lookup, hx] <;> exact ih h
abbrev blkX (X : Cx) (scope : Scope) (s : Shared) (H : Hp) (Ca : Addr) (cl : List (Str × Addr)) (fp : List Addr) : Cx := X.blk s H scope (compEnvC scope cl Ca X.env) fp
theorem blk_xg (g0 : XG cf G C ec k B N sc X) (hc : cf.calm = true) (s : Shared) (H : Hp) (Ca : Addr) (cl : List (Str × Addr)) (fp : List Addr) : XG cf G C ec k B N (L2.relS scope sc) (blkX X scope s H Ca cl fp) where
  eK := g0.eK
  nd := g0.nd
  room := g0.room
  gd := g0.gd
  eN := g0.eN
  eS := by rw [← g0.eS]; rfl
  nn := g0.nn
  xa := fun a c d h => by rw [(g0.calm hc).2.2] at h; cases h
  calm := g0.calm
  wf := g0.wf
theorem blk_tg (s : Shared) (H : Hp) (Ca : Addr) (cl : List (Str × Addr)) (fp : List Addr) : Tg scope (blkX X scope s H Ca cl fp) := fun x h => by
  have r1 : ∀ kd, kd ≠ NameKind.free → scope.names.lookup x = some kd → (blkX X scope s H Ca cl fp).env.scope.names.lookup x = some kd := fun kd hk h => lookup_relS (sc := X.env.scope) hk h
  rcases h with h | h
  · exact ⟨.inl (r1 _ (by decide) h), .inr (r1 _ (by decide) h)⟩
  · refine ⟨.inr (r1 _ (by decide) h), .inl ?_⟩
    show (scope.names.lookup x == some .cell) = true
    rw [h]; rfl
theorem Ext.tick {r r4 : RC} (e : Ext r r4) (R4 : Rep r4) {p : Addr} {vs : List V} (hp : r.H p = none) (hpv : ¬ r.pv p) (hq : r4.pv p) : Ext r { r4 with H := upd r4.H p (.lst vs) } :=
  ⟨⟨e.B, fun a u h n => by
    show upd r4.H p _ a = some u
    rw [upd_ne (ne_of_none h hp)]; exact e.keep a u h n, fun a w => e.own a w, e.loc, e.len⟩, e.pv, fun a h => by
    show upd r4.H p _ a = _
    rw [upd_ne fun z : a = p => hpv (z ▸ h)]; exact e.prv a h⟩
/-- a private list becomes a value -/
theorem adopt {ec : EC} {r r1 : RC} {σ : St} {Q : VK} {W : WX} {nd : Bool} {xs : List D} {vs : List V} {p : Addr} (R : Rep r) (e : Ext r r1) (R1 : Rep r1) (hp : r.H p = none) (hq : r1.pv p) (hH : r1.H p = some (.lst vs)) (h : RVs r1 xs vs)
    (g : GV ec r σ Q W (lstOf nd xs r1.ns)) : Q (.ref p) r1.H := by
  have hpv : ∀ a, r.pv a → a ≠ p := fun a z => by
    obtain ⟨ws, q, _⟩ := R.pvs a z
    exact ne_of_none q hp
  obtain ⟨e2, R2⟩ := R1.show p
  have h2 := RVs.ext0 R1 e2 h
  have nw : ¬ (r1.show p).W p := by
    rintro (⟨i, ys, q, z⟩ | w)
    · exact R1.sep i _ q (by rw [show r1.loc i = p from z]; exact hq)
    · exact w.2 rfl
  have ee : Ext r (r1.show p) := ⟨⟨e.B, e.keep, fun a w => by
    rcases w with w | w
    · exact e.own a (.inl w)
    · exact e.own a (.inr w.1), e.loc, e.len⟩, fun a z => ⟨e.pv a z, hpv a z⟩, e.prv⟩
  cases nd with
  | false => exact g (r1.show p) (.ref p) rfl ee R2 (by simp only [RV]; exact ⟨p, vs, rfl, hH, nw, h2⟩)
  | true =>
    have ll : ∀ i, i < r1.ns.length → (if i = r1.ns.length then p else r1.loc i) = r1.loc i := fun i hi => if_neg (Nat.ne_of_lt hi)
    have len : (r1.ns ++ [Nd.lst xs]).length = r1.ns.length + 1 := by simp
    let r3 : RC := ⟨r1.B, r1.H, fun i => if i = r1.ns.length then p else r1.loc i, r1.ns ++ [.lst xs], fun a => r1.pv a ∧ a ≠ p⟩
    have hw : ∀ a, r3.W a → r1.W a := fun a w => by
      rcases w with ⟨i, ys, q, rfl⟩ | w
      · rcases get_app q with ⟨hi, q⟩ | ⟨rfl, _⟩
        · exact .inl ⟨i, ys, q, (ll i hi).symm⟩
        · exact .inr (by show r1.pv (if r1.ns.length = r1.ns.length then p else _); rw [if_pos rfl]; exact hq)
      · exact .inr w.1
    have e3 : Ext0 r1 r3 := ⟨rfl, fun _ _ h _ => h, fun a w => .inl (hw a w), fun i hi => ll i hi, by show _ ≤ (r1.ns ++ [Nd.lst xs]).length; rw [len]; exact Nat.le_succ _⟩
    have lp : r3.loc r1.ns.length = p := if_pos rfl
    have R3 : Rep r3 := ⟨fun i j hi hj z => by
      have hi' : i < (r1.ns ++ [Nd.lst xs]).length := hi
      have hj' : j < (r1.ns ++ [Nd.lst xs]).length := hj
      rw [len] at hi' hj'
      by_cases ei : i = r1.ns.length
      · by_cases ej : j = r1.ns.length
        · rw [ei, ej]
        · have hj2 : j < r1.ns.length := by omega
          rw [ei, lp] at z
          have z2 : r1.loc j = p := (ll j hj2).symm.trans z.symm
          exact absurd (by rw [z2]; exact hq) (R1.sep j _ (List.getElem?_eq_getElem hj2))
      · have hi2 : i < r1.ns.length := by omega
        by_cases ej : j = r1.ns.length
        · rw [ej, lp] at z
          have z2 : r1.loc i = p := (ll i hi2).symm.trans z
          exact absurd (by rw [z2]; exact hq) (R1.sep i _ (List.getElem?_eq_getElem hi2))
        · have hj2 : j < r1.ns.length := by omega
          exact R1.inj i j hi2 hj2 ((ll i hi2).symm.trans (z.trans (ll j hj2))), fun i nd q => by
      rcases get_app q with ⟨hi, q⟩ | ⟨rfl, rfl⟩
      · exact RN.ext0 R1 e3 (R1.nod i nd q) (by show r1.H (if i = _ then _ else _) = _; rw [ll i hi])
      · exact ⟨_, by show r1.H (if r1.ns.length = r1.ns.length then p else _) = _; rw [if_pos rfl]; exact hH, vs, rfl, RVs.ext0 R1 e3 h⟩, fun i nd q z => by
      rcases get_app q with ⟨hi, q⟩ | ⟨rfl, rfl⟩
      · have z1 : r1.pv (if i = r1.ns.length then p else r1.loc i) := z.1
        rw [ll i hi] at z1
        exact R1.sep i nd q z1
      · exact z.2 lp, fun a z => R1.pvs a z.1⟩
    exact g r3 (.ref p) rfl ⟨⟨e.B, e.keep, fun a w => e.own a (hw a w), fun i hi => (ll i (Nat.lt_of_lt_of_le hi e.len)).trans (e.loc i hi), Nat.le_trans e.len e3.len⟩, fun a z => ⟨e.pv a z, hpv a z⟩, e.prv⟩ R3 (by
      simp only [RV]
      exact ⟨by show _ < (r1.ns ++ [Nd.lst xs]).length; rw [len]; exact Nat.lt_succ_self _, by rw [lp]⟩)
/-- the conditions of a comprehension -/
def CTM (X : Cx) (ifs : List Expr) : TT := fun σ H Q => ∀ (pins : List (Addr × Obj)) (s : Shared), Inv X pins σ H s → wpAny (model X.prog X.w) X.A (forIn ifs true fun c r => if r = true then do
    let ok ← PySem.isTrue c X.env (eval c X.env)
    pure (ForInStep.yield ok) else pure (ForInStep.yield r)) (TP X pins σ Q) X.xe s
def SndC (G : Gl) (C : Nat → List D → Hs → MP.R D) (ec : EC) (B : RB) (X : Cx) (ifs : List Expr) (m : Option E) : Prop :=
  ∀ ⦃W : WX⦄, Takes X W → ∀ ⦃σ : St⦄ ⦃r : RC⦄ ⦃sl : Sl⦄ ⦃Q : Bool → Hp → Prop⦄, r.B = B → Rep r → RS r sl σ → Good ec eqR r σ Q W (evC G C m sl r.ns) → CTM X ifs σ r.H Q
theorem sndC_none : SndC G C ec B X [] none := by
  intro W tk σ r sl Q eB R S g pins s I
  exact pts_nil.run pins s σ r.H Q I (g.okI R rfl)
theorem sndC_some (h : SndT G C ec B X c mc) : SndC G C ec B X [c] (some mc) := by
  intro W tk σ r sl Q eB R S g pins s I
  exact (pts_one pt_ttm).run pins s σ r.H Q I (h tk eB R S g)
/-- one item of a comprehension -/
def lcF (G : Gl) (C : Nat → List D → Hs → MP.R D) (own : List Nat) (t : T) (mc : Option E) (me : E) (sl : Sl) : D → Hs → MP.R (Option D) := fun x h => (MP.R.of (asgT h t x (wipeS sl own)) h).bind fun sl2 h => (evC G C mc sl2 h).bind fun ok h =>
      if ok then (evE G C me sl2 h).bind fun y h => .ok (some y) h else .ok none h
def LcW (r : RC) (src : Src) (f : D → Hs → MP.R (Option D)) (xs zs : List D) (h' : Hs) (p : Addr) (i m : Nat) (H : Hp) : Prop :=
  ∃ (r1 : RC) (acc : List V) (z0 z1 : List D), r1.H = H ∧ Ext r r1 ∧ Rep r1 ∧ r1.pv p ∧ H p = some (.lst acc) ∧ RVs r1 z0 acc ∧ mapR src f (xs.drop i) r1.ns = .ok z1 h' ∧ z0 ++ z1 = zs ∧ z0.length ≤ i ∧ i ≤ xs.length ∧ m = xs.length - i
theorem bind_ok {α β : Type} {x : MP.R α} {f : α → Hs → MP.R β} {b : β} {h : Hs} (e : x.bind f = .ok b h) : ∃ a h1, x = .ok a h1 ∧ f a h1 = .ok b h := by
  cases x with
  | ok a h1 => exact ⟨a, h1, rfl, e⟩
  | exc c fs h1 => cases e
  | bad => cases e
theorem ite_ok {c : Prop} [Decidable c] {α : Type} {x : MP.R α} {b : α} {h : Hs} (e : (if c then x else .bad) = .ok b h) : c ∧ x = .ok b h := by
  by_cases hc : c
  · rw [if_pos hc] at e; exact ⟨hc, e⟩
  · rw [if_neg hc] at e; cases e
theorem Good.to {α β : Type} {rel : RC → α → β → Prop} {r : RC} {σ : St} {Q : β → Hp → Prop} {W : WX} {x : MP.R α} {a : α} {h : Hs} (e : x = .ok a h) (q : ∀ r' b, r'.ns = h → Ext r r' → Rep r' → rel r' a b → Q b r'.H) : Good ec rel r σ Q W x := by
  subst e
  exact q
abbrev lcG (X : Cx) (scope : Scope) (tg : Expr) : TG := fun v σ H Q => ∀ s H0 Ca cl fp, GM (blkX X scope s H0 Ca cl fp) tg v σ H Q
abbrev lcT (X : Cx) (scope : Scope) (ifs : List Expr) : TT := fun σ H Q => ∀ s H0 Ca cl fp, CTM (blkX X scope s H0 Ca cl fp) ifs σ H Q
abbrev lcE (X : Cx) (scope : Scope) (elt : Expr) : TE := fun σ H Q => ∀ s H0 Ca cl fp, TM (blkX X scope s H0 Ca cl fp) elt σ H Q
theorem lc_read (g0 : XG cf G C ec k B N sc X) {t : T} {mi : I} {mcs : Option E} {nd : Bool} (hc : cf.calm = true) (hb : L2.blkC N sc scope (ownP N scope) = true) (hix : ∀ i ∈ tIx t, i ∈ (ownP N scope).map Prod.snd) (hfold : ∀ x, foldedSetIterable iter X.env x = pure x)
    (hi : SndI G C ec B X tg iter mi)
    (hg : ∀ s H Ca cl fp, SndG (blkX X scope s H Ca cl fp) tg t) (hcs : ∀ s H Ca cl fp, SndC G C ec B (blkX X scope s H Ca cl fp) ifs mcs) (he : ∀ s H Ca cl fp, SndE G C ec B (blkX X scope s H Ca cl fp) elt me) :
    ∀ {W : WX}, Takes X W → ∀ {σ : St} {r : RC} {sl : Sl} {Q : VK}, r.B = B → Rep r → RS r sl σ → GV ec r σ Q W (evE G C (.lc ((ownP N scope).map Prod.snd) t mi mcs me nd) sl r.ns) → tLc (IM X tg iter) (lcG X scope tg) (lcT X scope ifs) (lcE X scope elt) ((ownP N scope).map (fun x => x.2)) σ r.H Q := by
  intro W tk σ r sl Q eB R S g
  obtain ⟨hcm, hr, hxa⟩ := g0.calm hc
  simp only [evE] at g
  refine hi tk eB R S (g.step fun xs h1 r1 J _ n1 e1 R1 jt g1 => ?_)
  subst n1
  obtain ⟨hlim, g1⟩ := Good.ite g1
  have hz : ∃ zs h', mapR xs.2 (lcF G C ((ownP N scope).map Prod.snd) t mcs me sl) xs.1 r1.ns = .ok zs h' ∧ GV ec r1 σ Q W (lstOf nd zs h') := by
    have g1 : GV ec r1 σ Q W ((mapR xs.2 (lcF G C ((ownP N scope).map Prod.snd) t mcs me sl) xs.1 r1.ns).nox.bind fun ys h => lstOf nd ys h) := g1
    cases e : mapR xs.2 (lcF G C ((ownP N scope).map Prod.snd) t mcs me sl) xs.1 r1.ns with
    | ok zs h' => rw [e] at g1; exact ⟨zs, h', rfl, g1⟩
    | exc c fs h => rw [e] at g1; exact False.elim g1
    | bad => rw [e] at g1; exact False.elim g1
  obtain ⟨zs, h', hm, g2⟩ := hz
  have S1 := S.ext R e1
  have eB1 : r1.B = B := e1.B.trans eB
  intro p hp
  refine ⟨LcW r1 xs.2 (lcF G C ((ownP N scope).map Prod.snd) t mcs me sl) xs.1 zs h' p, ⟨xs.1.length, r1.priv p [], [], [], zs, rfl, (R1.priv hp).1, (R1.priv hp).2, .inr rfl, upd_same, RVs.nil, hm, rfl, Nat.le_refl _, Nat.zero_le _, rfl⟩, fun i m H ⟨r2, acc, z0, z1, eH, e2, R2, pv2, hacc, hz0, hm2, hzz, hl0, hil, em⟩ => ?_⟩
  subst eH
  have hpr : ¬ r1.pv p := fun z => by
    obtain ⟨ws, q, _⟩ := R1.pvs p z
    rw [hp] at q; cases q
  have hall : ∀ xs1, xs.1.drop i = xs1 → (xs1 = [] ∨ ∃ x, xs.1[i]? = some x ∧ xs1 = x :: xs.1.drop (i + 1)) := fun xs1 hx => by
    by_cases hi2 : i < xs.1.length
    · exact .inr ⟨xs.1[i], List.getElem?_eq_getElem hi2, by rw [← hx, List.drop_eq_getElem_cons hi2]⟩
    · exact .inl (by rw [← hx]; exact List.drop_eq_nil_of_le (by omega))
  rcases hall _ rfl with hd | ⟨x, hx, hd⟩
  · rw [hd] at hm2
    obtain ⟨hck, hm2⟩ := ite_ok hm2
    cases hm2
    rw [List.append_nil] at hzz
    subst hzz
    have hi2 : xs.1.length ≤ i := by
      have := congrArg List.length hd
      simp at this
      omega
    exact .inl ⟨(jt r2 e2.toExt0 R2 hck i).2 hi2, adopt R1 e2 R2 hp pv2 hacc hz0 g2⟩
  · rw [hd] at hm2
    obtain ⟨hck, hm2⟩ := ite_ok hm2
    obtain ⟨o, h2, hf, hm3⟩ := bind_ok hm2
    obtain ⟨ys, h3, hrest, hm4⟩ := bind_ok hm3
    clear hm2 hm3
    have il : i < xs.1.length := get_lt hx
    obtain ⟨jg, jy⟩ := (jt r2 e2.toExt0 R2 hck i).1 x hx
    refine .inr ⟨jg, LcW r1 xs.2 (lcF G C ((ownP N scope).map Prod.snd) t mcs me sl) xs.1 zs h' p (i + 1) (m - 1), fun H' hW => ⟨m - 1, by omega, hW⟩, fun v H' hy s0 H0 Ca cl fp => ?_⟩
    obtain ⟨r3, eH, e3, R3, n3, rv⟩ := jy v H' hy
    subst eH
    have e13 := e2.trans e3
    have eB3 : r3.B = B := e13.B.trans eB1
    have S3 := (S1.ext R1 e13).wipe ((ownP N scope).map Prod.snd)
    rw [← n3] at hf
    unfold lcF at hf
    obtain ⟨sl2, h4, hf1, hf⟩ := bind_ok hf
    cases ha : asgT r3.ns t x (wipeS sl ((ownP N scope).map Prod.snd)) with
    | none => rw [ha] at hf1; cases hf1
    | some sl2' =>
      rw [ha] at hf1
      cases hf1
      refine hg s0 H0 Ca cl fp (by rw [eB3]; exact g0.eK.symm) R3 rv S3 ha fun σ2 S2 hw => ⟨?_, fun s0 H0 Ca cl fp => ?_⟩
      · rw [hw _ hix, wipe_idem]
      · obtain ⟨ok, h5, hf2, hf⟩ := bind_ok hf
        refine hcs s0 H0 Ca cl fp takes0 eB3 R3 S2 (Good.to hf2 fun r4 b n4 e4 R4 eb => ?_)
        cases eb
        subst n4
        have e14 := e13.trans e4
        have pv4 : r4.pv p := e4.pv p (e3.pv p pv2)
        have hp4 : r4.H p = some (.lst acc) := by rw [e4.prv p (e3.pv p pv2), e3.prv p pv2]; exact hacc
        cases ok with
        | false =>
          cases hf
          cases hm4
          refine ⟨r4, acc, z0, _, rfl, e14, R4, pv4, hp4, RVs.ext R3 e4 (RVs.ext R2 e3 hz0), hrest, hzz, by omega, il, by omega⟩
        | true =>
          show ∀ s0 H0 Ca cl fp, TM (blkX X scope s0 H0 Ca cl fp) elt σ2 r4.H _
          intro s0 H0 Ca cl fp
          obtain ⟨y, h6, hf3, hf⟩ := bind_ok (show ((evE G C me sl2 r4.ns).bind fun y h => MP.R.ok (some y) h) = _ from hf)
          cases hf
          cases hm4
          refine he s0 H0 Ca cl fp takes0 (e4.B.trans eB3) R4 (S2.ext R3 e4) (Good.to hf3 fun r5 b n5 e5 R5 rb => ?_)
          subst n5
          have pv5 : r5.pv p := e5.pv p pv4
          have hp5 : r5.H p = some (.lst acc) := by rw [e5.prv p pv4]; exact hp4
          have hz5 := RVs.ext R4 e5 (RVs.ext R3 e4 (RVs.ext R2 e3 hz0))
          obtain ⟨e6, R6⟩ := R5.tick (vs := acc ++ [b]) pv5
          refine ⟨acc, hp5, ?_, { r5 with H := upd r5.H p (.lst (acc ++ [b])) }, acc ++ [b], z0 ++ [y], ys, rfl, (e14.trans e5).tick R5 hp hpr pv5, R6, pv5, upd_same, RVs.ext0 R5 e6 (hz5.append (RVs.cons rb RVs.nil)), hrest, ?_, ?_, il, by omega⟩
          · rw [← hz0.length]
            exact Nat.lt_of_le_of_lt (Nat.le_of_lt (Nat.lt_of_le_of_lt hl0 il)) (lt_line hlim)
          · rw [List.append_assoc]; exact hzz
          · rw [List.length_append]; simp; omega
theorem lc_pg : ∀ s H0 Ca cl fp, PG (blkX X scope s H0 Ca cl fp) tg (lcG X scope tg) := fun s H0 Ca cl fp => ⟨fun pins s1 σ H v u Q I rv h => h s H0 Ca cl fp pins s1 u I rv⟩
theorem lc_pt : ∀ s H0 Ca cl fp, PTs (blkX X scope s H0 Ca cl fp) ifs (lcT X scope ifs) := fun s H0 Ca cl fp => ⟨fun pins s1 σ H Q I h => h s H0 Ca cl fp pins s1 I⟩
theorem lc_pe : ∀ s H0 Ca cl fp, PE (blkX X scope s H0 Ca cl fp) elt (lcE X scope elt) := fun s H0 Ca cl fp => ⟨fun pins s1 σ H Q I h => h s H0 Ca cl fp pins s1 I⟩
theorem snd_lc (g0 : XG cf G C ec k B N sc X) {t : T} {mi : I} {mcs : Option E} {nd : Bool} (hc : cf.calm = true) (hb : L2.blkC N sc scope (ownP N scope) = true) (hix : ∀ i ∈ tIx t, i ∈ (ownP N scope).map Prod.snd) (hfold : ∀ x, foldedSetIterable iter X.env x = pure x)
    (hi : SndI G C ec B X tg iter mi)
    (hg : ∀ s H Ca cl fp, SndG (blkX X scope s H Ca cl fp) tg t) (hcs : ∀ s H Ca cl fp, SndC G C ec B (blkX X scope s H Ca cl fp) ifs mcs) (he : ∀ s H Ca cl fp, SndE G C ec B (blkX X scope s H Ca cl fp) elt me) :
    SndE G C ec B X (.ListComp elt [{ target := tg, iter := iter, ifs := ifs, is_async := 0 }] scope pos) (.lc ((ownP N scope).map Prod.snd) t mi mcs me nd) ∧
    ∀ {W : WX}, Takes X W → ∀ {i : Nat} {y : Str} {py spos : Pos} {σ : St} {r : RC} {sl : Sl} {D : Ends}, N[i]? = some y → X.env.scope.names.lookup y = some .local → swapsWith (.ListComp elt [{ target := tg, iter := iter, ifs := ifs, is_async := 0 }] scope pos) (some (.Name y py)) spos.line X.env = pure true → r.B = B → Rep r → RS r sl σ →
      GV ec r σ (fun v H => D.nx (σ.set i (some v)) H) W (evE G C (.lc ((ownP N scope).map Prod.snd) t mi mcs me nd) sl r.ns) → ∀ (pins : List (Addr × Obj)) (s : Shared), Inv X pins σ r.H s → wpAny (model X.prog X.w) X.A (exec (.Assign [.Name y py] (.ListComp elt [{ target := tg, iter := iter, ifs := ifs, is_async := 0 }] scope pos) spos) X.env) (SP X pins D) X.xe s := by
  have bok : BlkOk X.N X.env.scope scope (ownP N scope) := by rw [g0.eN, g0.eS]; exact blkOk_by hb
  have hnd : X.N.Nodup := by rw [g0.eN]; exact g0.nd
  refine ⟨fun W tk σ r sl Q eB R S g => TM.of (pe_lc (g0.calm hc).1 hnd pi_im bok lc_pg lc_pt lc_pe hfold) (lc_read g0 hc hb hix hfold hi hg hcs he tk eB R S g), ?_⟩
  intro W tk i y py spos σ r sl D hy hl hs eB R S g pins s I
  exact (ps_setLc (g0.calm hc).1 hnd (by rw [g0.eN]; exact hy) hl hs pi_im bok lc_pg lc_pt lc_pe hfold).run pins s σ r.H D I (lc_read g0 hc hb hix hfold hi hg hcs he tk eB R S g)
end
end L2.MP
namespace L2.MP
open PySem PySem.Spec PyProof.Rows
section
variable {cf : Cf} {G : Gl} {C : Nat → List D → Hs → MP.R D} {ec : EC} {k n : Nat} {B : RB} {N : List Str} {sc scope : Scope} {X : Cx} {e a b c tg iter elt tg1 iter1 : Expr} {es ifs : List Expr} {m ma mb mc mo me : E} {ms : List E} {pos p2 p : Pos}
/-- the inner for's item -/
def l2F1 (G : Gl) (C : Nat → List D → Hs → MP.R D) (own1 : List Nat) (t1 : T) (me : E) (sl2 : Sl) : D → Hs → MP.R (Option D) := fun y h => (MP.R.of (asgT h t1 y (wipeS sl2 own1)) h).bind fun sl3 h => (evE G C me sl3 h).bind fun z h => .ok (some z) h
/-- the outer for's item -/
def l2F (G : Gl) (C : Nat → List D → Hs → MP.R D) (own own1 : List Nat) (t : T) (t1 : T) (mi1 : I) (me : E) (sl : Sl) : D → Hs → MP.R (List D) := fun x h => (MP.R.of (asgT h t x (wipeS sl own)) h).bind fun sl2 h => (evI G C mi1 sl2 h).bind fun ys h => mapR ys.2 (l2F1 G C own1 t1 me sl2) ys.1 h
def L2W (r : RC) (src : Src) (f : D → Hs → MP.R (List D)) (xs zs : List D) (h' : Hs) (p : Addr) (i m : Nat) (H : Hp) : Prop :=
  ∃ (r1 : RC) (acc : List V) (z0 z1 : List D), r1.H = H ∧ Ext r r1 ∧ Rep r1 ∧ r1.pv p ∧ H p = some (.lst acc) ∧ RVs r1 z0 acc ∧ flatR src f (xs.drop i) r1.ns = .ok z1 h' ∧ z0 ++ z1 = zs ∧ i ≤ xs.length ∧ m = xs.length - i
def L1W (rb r : RC) (src : Src) (f : D → Hs → MP.R (Option D)) (xs z0 o : List D) (h1 : Hs) (p : Addr) (i m : Nat) (H : Hp) : Prop :=
  ∃ (r1 : RC) (acc : List V) (w0 w1 : List D), r1.H = H ∧ Ext rb r1 ∧ Ext0 r r1 ∧ Rep r1 ∧ r1.pv p ∧ H p = some (.lst acc) ∧ RVs r1 (z0 ++ w0) acc ∧ mapR src f (xs.drop i) r1.ns = .ok w1 h1 ∧ w0 ++ w1 = o ∧ i ≤ xs.length ∧ m = xs.length - i
abbrev lcI (X : Cx) (scope : Scope) (tg1 iter1 : Expr) : TI := fun σ H R => ∀ s H0 Ca cl fp, IM (blkX X scope s H0 Ca cl fp) tg1 iter1 σ H R
theorem drop_cases {xs : List D} (i : Nat) : (xs.drop i = [] ∧ xs.length ≤ i) ∨ ∃ x, xs[i]? = some x ∧ xs.drop i = x :: xs.drop (i + 1) := by
  by_cases hi : i < xs.length
  · exact .inr ⟨xs[i], List.getElem?_eq_getElem hi, List.drop_eq_getElem_cons hi⟩
  · exact .inl ⟨List.drop_eq_nil_of_le (by omega), by omega⟩
theorem RS.ext0 {r r' : RC} (R : Rep r) (e : Ext0 r r') {sl : Sl} {σ : St} (h : RS r sl σ) : RS r' sl σ :=
  ⟨h.1, fun i d q => let ⟨v, a, b⟩ := h.2 i d q; ⟨v, a, RV.ext0 R e b⟩⟩
theorem lc2_read (g0 : XG cf G C ec k B N sc X) {t t1 : T} {mi mi1 : I} {nd : Bool} (hc : cf.calm = true) (hb : L2.blkC N sc scope (ownP N scope) = true) (hix : ∀ i ∈ tIx t, i ∈ (ownP N scope).map Prod.snd)
    (hi : SndI G C ec B X tg iter mi) (hg : ∀ s H Ca cl fp, SndG (blkX X scope s H Ca cl fp) tg t)
    (hi1 : ∀ s H Ca cl fp, SndI G C ec B (blkX X scope s H Ca cl fp) tg1 iter1 mi1) (hg1 : ∀ s H Ca cl fp, SndG (blkX X scope s H Ca cl fp) tg1 t1) (he : ∀ s H Ca cl fp, SndE G C ec B (blkX X scope s H Ca cl fp) elt me) :
    ∀ {W : WX}, Takes X W → ∀ {σ : St} {r : RC} {sl : Sl} {Q : VK}, r.B = B → Rep r → RS r sl σ → GV ec r σ Q W (evE G C (.lc2 ((ownP N scope).map Prod.snd) (tIx t1) t mi t1 mi1 me nd) sl r.ns) →
      tLc2 (IM X tg iter) (lcG X scope tg) (lcT X scope []) (lcI X scope tg1 iter1) (lcG X scope tg1) (lcT X scope []) (lcE X scope elt) ((ownP N scope).map (fun x => x.2)) (tIx t1) σ r.H Q := by
  intro W tk σ r sl Q eB R S g
  obtain ⟨hcm, hr, hxa⟩ := g0.calm hc
  simp only [evE] at g
  refine hi tk eB R S (g.step fun xs h1 r1 J _ n1 e1 R1 jt g1 => ?_)
  subst n1
  have hz : ∃ zs h', flatR xs.2 (l2F G C ((ownP N scope).map Prod.snd) (tIx t1) t t1 mi1 me sl) xs.1 r1.ns = .ok zs h' ∧ zs.length < lim ∧ GV ec r1 σ Q W (lstOf nd zs h') := by
    have g1 : GV ec r1 σ Q W ((flatR xs.2 (l2F G C ((ownP N scope).map Prod.snd) (tIx t1) t t1 mi1 me sl) xs.1 r1.ns).nox.bind fun ys h => if ys.length < lim then lstOf nd ys h else .bad) := g1
    cases e : flatR xs.2 (l2F G C ((ownP N scope).map Prod.snd) (tIx t1) t t1 mi1 me sl) xs.1 r1.ns with
    | ok zs h' =>
      rw [e] at g1
      obtain ⟨hl, g1⟩ := Good.ite (show GV ec r1 σ Q W (if zs.length < lim then lstOf nd zs h' else .bad) from g1)
      exact ⟨zs, h', rfl, hl, g1⟩
    | exc c fs h => rw [e] at g1; exact False.elim g1
    | bad => rw [e] at g1; exact False.elim g1
  obtain ⟨zs, h', hm, hlim, g2⟩ := hz
  have S1 := S.ext R e1
  have eB1 : r1.B = B := e1.B.trans eB
  intro p hp
  have hpr : ¬ r1.pv p := fun z => by
    obtain ⟨ws, q, _⟩ := R1.pvs p z
    rw [hp] at q; cases q
  refine ⟨L2W r1 xs.2 (l2F G C ((ownP N scope).map Prod.snd) (tIx t1) t t1 mi1 me sl) xs.1 zs h' p, ⟨xs.1.length, r1.priv p [], [], [], zs, rfl, (R1.priv hp).1, (R1.priv hp).2, .inr rfl, upd_same, RVs.nil, hm, rfl, Nat.zero_le _, rfl⟩, fun i m H ⟨r2, acc, z0, z1, eH, e2, R2, pv2, hacc, hz0, hm2, hzz, hil, em⟩ => ?_⟩
  subst eH
  rcases drop_cases (xs := xs.1) i with ⟨hd, hi2⟩ | ⟨x, hx, hd⟩
  · rw [hd] at hm2
    obtain ⟨hck, hm2⟩ := ite_ok hm2
    cases hm2
    rw [List.append_nil] at hzz
    subst hzz
    exact .inl ⟨(jt r2 e2.toExt0 R2 hck i).2 hi2, adopt R1 e2 R2 hp pv2 hacc hz0 g2⟩
  · rw [hd] at hm2
    obtain ⟨hck, hm2⟩ := ite_ok hm2
    obtain ⟨o, h2, hf, hm3⟩ := bind_ok hm2
    obtain ⟨ys, h3, hrest, hm4⟩ := bind_ok hm3
    cases hm4
    clear hm2 hm3
    have il : i < xs.1.length := get_lt hx
    obtain ⟨jg, jy⟩ := (jt r2 e2.toExt0 R2 hck i).1 x hx
    refine .inr ⟨jg, L2W r1 xs.2 (l2F G C ((ownP N scope).map Prod.snd) (tIx t1) t t1 mi1 me sl) xs.1 zs h' p (i + 1) (m - 1), fun H' hW => ⟨m - 1, by omega, hW⟩, fun v H' hy s0 H0 Ca cl fp => ?_⟩
    obtain ⟨r3, eH, e3, R3, n3, rv⟩ := jy v H' hy
    subst eH
    have e13 := e2.trans e3
    have eB3 : r3.B = B := e13.B.trans eB1
    have S3 := (S1.ext R1 e13).wipe ((ownP N scope).map Prod.snd)
    rw [← n3] at hf
    unfold l2F at hf
    obtain ⟨sl2, h4, hf1, hf⟩ := bind_ok hf
    cases ha : asgT r3.ns t x (wipeS sl ((ownP N scope).map Prod.snd)) with
    | none => rw [ha] at hf1; cases hf1
    | some sl2' =>
      rw [ha] at hf1
      cases hf1
      refine hg s0 H0 Ca cl fp (by rw [eB3]; exact g0.eK.symm) R3 rv S3 ha fun σ2 S2 hw => ⟨?_, fun s0 H0 Ca cl fp pins s I => ?_⟩
      · rw [hw _ hix, wipe_idem]
      · refine pts_nil.run pins s σ2 r3.H _ I ?_
        show ∀ s0 H0 Ca cl fp, IM (blkX X scope s0 H0 Ca cl fp) tg1 iter1 σ2 r3.H _
        intro s0 H0 Ca cl fp
        obtain ⟨qs, h5, hf2, hf⟩ := bind_ok hf
        refine hi1 s0 H0 Ca cl fp takes0 eB3 R3 S2 (Good.to hf2 fun r4 J1 n4 e4 R4 jt1 => ?_)
        subst n4
        have e14 := e13.trans e4
        have S4 := S2.ext R3 e4
        have pv4 : r4.pv p := e4.pv p (e3.pv p pv2)
        have hp4 : r4.H p = some (.lst acc) := by rw [e4.prv p (e3.pv p pv2), e3.prv p pv2]; exact hacc
        have hz4 := RVs.ext R3 e4 (RVs.ext R2 e3 hz0)
        refine ⟨L1W r1 r4 qs.2 (l2F1 G C (tIx t1) t1 me sl2) qs.1 z0 o h2 p, ⟨qs.1.length, r4, acc, [], o, rfl, e14, Ext0.refl r4, R4, pv4, hp4, by rw [List.append_nil]; exact hz4, hf, rfl, Nat.zero_le _, rfl⟩, fun j kk H ⟨r5, acc5, w0, w1, eH, e15, e5, R5, pv5, hacc5, hw5, hm5, hww, hjl, ek⟩ => ?_⟩
        subst eH
        rcases drop_cases (xs := qs.1) j with ⟨hd5, hj2⟩ | ⟨y, hy5, hd5⟩
        · rw [hd5] at hm5
          obtain ⟨hck5, hm5⟩ := ite_ok hm5
          cases hm5
          rw [List.append_nil] at hww
          subst hww
          exact .inl ⟨(jt1 r5 e5 R5 hck5 j).2 hj2, r5, acc5, _, ys, rfl, e15, R5, pv5, hacc5, hw5, hrest, by rw [List.append_assoc]; exact hzz, il, by omega⟩
        · rw [hd5] at hm5
          obtain ⟨hck5, hm5⟩ := ite_ok hm5
          obtain ⟨oy, h6, hfy, hm6⟩ := bind_ok hm5
          obtain ⟨us, h7, hrest5, hm7⟩ := bind_ok hm6
          clear hm5 hm6
          have jl : j < qs.1.length := get_lt hy5
          obtain ⟨jg1, jy1⟩ := (jt1 r5 e5 R5 hck5 j).1 y hy5
          refine .inr ⟨jg1, L1W r1 r4 qs.2 (l2F1 G C (tIx t1) t1 me sl2) qs.1 z0 o h2 p (j + 1) (kk - 1), fun H' hW => ⟨kk - 1, by omega, hW⟩, fun v6 H6 hy6 s0 H0 Ca cl fp => ?_⟩
          obtain ⟨r6, eH, e6, R6, n6, rv6⟩ := jy1 v6 H6 hy6
          subst eH
          have e46 := e5.trans e6.toExt0
          have e16 := e15.trans e6
          have eB6 : r6.B = B := e16.B.trans eB1
          have S6 := (S4.ext0 R4 e46).wipe (tIx t1)
          rw [← n6] at hfy
          unfold l2F1 at hfy
          obtain ⟨sl3, h8, hfy1, hfy⟩ := bind_ok hfy
          cases ha6 : asgT r6.ns t1 y (wipeS sl2 (tIx t1)) with
          | none => rw [ha6] at hfy1; cases hfy1
          | some sl3' =>
            rw [ha6] at hfy1
            cases hfy1
            refine hg1 s0 H0 Ca cl fp (by rw [eB6]; exact g0.eK.symm) R6 rv6 S6 ha6 fun σ3 S7 hw7 => ⟨?_, fun s0 H0 Ca cl fp pins s I => ?_⟩
            · rw [hw7 _ fun i hi => hi, wipe_idem]
            · refine pts_nil.run pins s σ3 r6.H _ I ?_
              show ∀ s0 H0 Ca cl fp, TM (blkX X scope s0 H0 Ca cl fp) elt σ3 r6.H _
              intro s0 H0 Ca cl fp
              obtain ⟨z, h9, hfy2, hfy⟩ := bind_ok hfy
              cases hfy
              cases hm7
              refine he s0 H0 Ca cl fp takes0 eB6 R6 S7 (Good.to hfy2 fun r7 b n7 e7 R7 rb => ?_)
              subst n7
              have pv6 : r6.pv p := e6.pv p pv5
              have pv7 : r7.pv p := e7.pv p pv6
              have hp7 : r7.H p = some (.lst acc5) := by rw [e7.prv p pv6, e6.prv p pv5]; exact hacc5
              have hz7 := RVs.ext R6 e7 (RVs.ext R5 e6 hw5)
              obtain ⟨e8, R8⟩ := R7.tick (vs := acc5 ++ [b]) pv7
              refine ⟨acc5, hp7, ?_, ?_⟩
              · rw [← hz7.length]
                have q1 := congrArg List.length hzz
                have q2 := congrArg List.length hww
                simp only [List.length_append, List.length_cons] at q1 q2 ⊢
                exact lt_line (by omega)
              · refine ⟨{ r7 with H := upd r7.H p (.lst (acc5 ++ [b])) }, acc5 ++ [b], w0 ++ [z], us, rfl, (e16.trans e7).tick R7 hp hpr pv7, (e46.trans e7.toExt0).trans e8, R8, pv7, upd_same, ?_, hrest5, ?_, jl, by omega⟩
                · rw [← List.append_assoc]
                  exact RVs.ext0 R7 e8 (hz7.append (RVs.cons rb RVs.nil))
                · rw [List.append_assoc]; exact hww
theorem lc_pi : ∀ s H0 Ca cl fp, PI (blkX X scope s H0 Ca cl fp) tg1 (iter1) (lcI X scope tg1 iter1) := fun s H0 Ca cl fp => ⟨fun pins s1 σ H R I h => h s H0 Ca cl fp pins s1 I⟩
theorem snd_lc2 (g0 : XG cf G C ec k B N sc X) {t t1 : T} {mi mi1 : I} {nd : Bool} (hc : cf.calm = true) (hb : L2.blkC N sc scope (ownP N scope) = true) (hix : ∀ i ∈ tIx t, i ∈ (ownP N scope).map Prod.snd) (hix1 : ∀ i ∈ tIx t1, i ∈ (ownP N scope).map Prod.snd)
    (hfold : ∀ x, foldedSetIterable iter X.env x = pure x) (hfold1 : ∀ env x, foldedSetIterable iter1 env x = pure x)
    (hi : SndI G C ec B X tg iter mi) (hg : ∀ s H Ca cl fp, SndG (blkX X scope s H Ca cl fp) tg t)
    (hi1 : ∀ s H Ca cl fp, SndI G C ec B (blkX X scope s H Ca cl fp) tg1 iter1 mi1) (hg1 : ∀ s H Ca cl fp, SndG (blkX X scope s H Ca cl fp) tg1 t1) (he : ∀ s H Ca cl fp, SndE G C ec B (blkX X scope s H Ca cl fp) elt me) :
    SndE G C ec B X (.ListComp elt [{ target := tg, iter := iter, ifs := [], is_async := 0 }, { target := tg1, iter := iter1, ifs := [], is_async := 0 }] scope pos) (.lc2 ((ownP N scope).map Prod.snd) (tIx t1) t mi t1 mi1 me nd) ∧
    ∀ {W : WX}, Takes X W → ∀ {i : Nat} {y : Str} {py spos : Pos} {σ : St} {r : RC} {sl : Sl} {D : Ends}, N[i]? = some y → X.env.scope.names.lookup y = some .local → swapsWith (.ListComp elt [{ target := tg, iter := iter, ifs := [], is_async := 0 }, { target := tg1, iter := iter1, ifs := [], is_async := 0 }] scope pos) (some (.Name y py)) spos.line X.env = pure true → r.B = B → Rep r → RS r sl σ →
      GV ec r σ (fun v H => D.nx (σ.set i (some v)) H) W (evE G C (.lc2 ((ownP N scope).map Prod.snd) (tIx t1) t mi t1 mi1 me nd) sl r.ns) → ∀ (pins : List (Addr × Obj)) (s : Shared), Inv X pins σ r.H s → wpAny (model X.prog X.w) X.A (exec (.Assign [.Name y py] (.ListComp elt [{ target := tg, iter := iter, ifs := [], is_async := 0 }, { target := tg1, iter := iter1, ifs := [], is_async := 0 }] scope pos) spos) X.env) (SP X pins D) X.xe s := by
  have bok : BlkOk X.N X.env.scope scope (ownP N scope) := by rw [g0.eN, g0.eS]; exact blkOk_by hb
  have hnd : X.N.Nodup := by rw [g0.eN]; exact g0.nd
  refine ⟨fun W tk σ r sl Q eB R S g => TM.of (pe_lc2 (g0.calm hc).1 hnd pi_im bok hix1 lc_pg lc_pt lc_pi lc_pg lc_pt lc_pe hfold hfold1) (lc2_read g0 hc hb hix hi hg hi1 hg1 he tk eB R S g), ?_⟩
  intro W tk i y py spos σ r sl D hy hl hs eB R S g pins s I
  exact (ps_setLc2 (g0.calm hc).1 hnd (by rw [g0.eN]; exact hy) hl hs pi_im bok hix1 lc_pg lc_pt lc_pi lc_pg lc_pt lc_pe hfold hfold1).run pins s σ r.H D I (lc2_read g0 hc hb hix hi hg hi1 hg1 he tk eB R S g)
end
end L2.MP
namespace L2.MP
open PySem PySem.Spec PyProof.Rows
section
variable {cf : Cf} {G : Gl} {C : Nat → List D → Hs → MP.R D} {ec : EC} {k n : Nat} {B : RB} {N : List Str} {sc scope : Scope} {X : Cx} {e a b c tg iter elt tg1 iter1 : Expr} {es ifs : List Expr} {m ma mb mc mo me : E} {ms : List E} {pos p2 p : Pos}
/-- a part of an f-string -/
def pT (X : Cx) (e : Expr) : TE := match e with
  | .FormattedValue a (-1) none _ => tFmt (TM X a)
  | e => TM X e
theorem pe_pT (e : Expr) : PE X e (pT X e) := by
  unfold pT
  split
  · exact pe_fmt pe_tm
  · exact pe_tm
theorem pj_all : ∀ es : List Expr, PJ X es (es.map (pT X))
  | [] => .nil
  | e :: es => .cons (pe_pT e) (pj_all es)
/-- a text as it stands -/
abbrev strR (_ : RC) (a : List Nat) (b : Str) : Prop := b = ⟨a.toArray⟩ ∧ okS a
def SndF (G : Gl) (C : Nat → List D → Hs → MP.R D) (ec : EC) (B : RB) (X : Cx) (es : List Expr) (ms : List E) : Prop :=
  ∀ ⦃W : WX⦄, Takes X W → ∀ ⦃σ : St⦄ ⦃r : RC⦄ ⦃sl : Sl⦄ ⦃acc : List Nat⦄ ⦃Q : Str → Hp → Prop⦄, r.B = B → Rep r → RS r sl σ → okS acc → Good ec strR r σ Q W (evF G C ms acc sl r.ns) → tJs (es.map (pT X)) ⟨acc.toArray⟩ σ r.H Q
theorem snf_nil : SndF G C ec B X [] [] := by
  intro W tk σ r sl acc Q eB R S o g
  simp only [evF] at g
  exact g.okI R ⟨rfl, o⟩
theorem fmt_ok {r : RC} {x : D} {v : V} {w : List Nat} (h : RV r x v) (e : fmtD x = some w) : okS w ∧ ((∃ s, x = .str s ∧ v = .str ⟨w.toArray⟩ ∧ s = w) ∨ ∃ i : Int, v = .int i ∧ i.natAbs.log2 < 1920 ∧ (toString i : Str) = ⟨w.toArray⟩) := by
  cases x <;> simp only [fmtD] at e <;> first | (cases e; done) | skip
  · rename_i i
    split at e
    · rename_i hi
      cases e
      refine ⟨okS_str _, .inr ⟨i, rv_int h, hi, ?_⟩⟩
      show (Str.ofString (toString i)) = ⟨(intS i).toArray⟩
      unfold intS strS
      simp
    · cases e
  · rename_i s
    cases e
    obtain ⟨rfl, o⟩ := rv_str h
    exact ⟨o, .inl ⟨_, rfl, rfl, rfl⟩⟩
theorem snf_cons (hsz : lim ≤ sizeLine) (he : e = e) {me : E} (hp : (∃ a q, e = .FormattedValue a (-1) none q ∧ SndE G C ec B X a me) ∨ (∃ s, me = .cst (.str s) ∧ SndE G C ec B X e me ∧ (∀ a q, e ≠ .FormattedValue a (-1) none q))) (hs : SndF G C ec B X es ms) : SndF G C ec B X (e :: es) (me :: ms) := by
  intro W tk σ r sl acc Q eB R S o g
  simp only [evF] at g
  simp only [List.map_cons, tJs]
  rcases hp with ⟨a, q, rfl, hp⟩ | ⟨s, rfl, hp, hne⟩
  · have e0 : pT X (.FormattedValue a (-1) none q) = tFmt (TM X a) := by simp [pT]
    rw [e0]
    refine hp tk eB R S (g.step fun x h1 r1 v1 _ n1 e1 R1 q1 g1 => ?_)
    subst n1
    obtain ⟨w, hw, g1⟩ := Good.of g1
    obtain ⟨hl, g1⟩ := Good.ite g1
    have fin : okS w → ∃ y : Str, V.str (⟨w.toArray⟩ : Str) = .str y ∧ ((⟨acc.toArray⟩ : Str) ++ y).length ≤ sizeLine ∧ tJs (es.map (pT X)) ((⟨acc.toArray⟩ : Str) ++ y) σ r1.H Q := fun ow => by
      refine ⟨_, rfl, ?_, ?_⟩
      · rw [str_app]
        show (acc ++ w).toArray.size ≤ _
        simpa using Nat.le_trans hl hsz
      · rw [str_app]
        exact hs tk (e1.B.trans eB) R1 (S.ext R e1) (fun c hc => by
          rcases List.mem_append.mp hc with hc | hc
          · exact o c hc
          · exact ow c hc) g1
    obtain ⟨ow, hv⟩ := fmt_ok q1 hw
    rcases hv with ⟨s, rfl, rfl, rfl⟩ | ⟨i, rfl, hi, hs'⟩
    · refine .inl ⟨_, rfl, ?_, fin ow⟩
      show s.toArray.size ≤ _
      rw [List.length_append] at hl
      simp
      exact Nat.le_trans (by omega) hsz
    · refine .inr ⟨i, rfl, hi, ?_⟩
      rw [hs']
      exact fin ow
  · have e0 : pT X e = TM X e := by
      unfold pT
      split
      · exact absurd rfl (hne _ _)
      · rfl
    rw [e0]
    refine hp tk eB R S (g.step fun x h1 r1 v1 ev n1 e1 R1 q1 g1 => ?_)
    subst n1
    obtain ⟨w, hw, g1⟩ := Good.of g1
    obtain ⟨hl, g1⟩ := Good.ite g1
    simp only [evE, MP.R.ok.injEq] at ev
    obtain ⟨rfl, _⟩ := ev
    cases hw
    obtain ⟨rfl, ow⟩ := rv_str q1
    refine ⟨_, rfl, ?_, ?_⟩
    · rw [str_app]
      show (acc ++ s).toArray.size ≤ _
      simpa using Nat.le_trans hl hsz
    · rw [str_app]
      exact hs tk (e1.B.trans eB) R1 (S.ext R e1) (fun c hc => by
        rcases List.mem_append.mp hc with hc | hc
        · exact o c hc
        · exact ow c hc) g1
theorem snd_fstr {e2 : Expr} (hs : SndF G C ec B X (e :: e2 :: es) ms) : SndE G C ec B X (.JoinedStr (e :: e2 :: es) pos) (.fstr ms) := by
  intro W tk σ r sl Q eB R S g
  simp only [evE] at g
  have key : tJs ((e :: e2 :: es).map (pT X)) ⟨([] : List Nat).toArray⟩ σ r.H fun out H1 => Q (.str out) H1 := by
    refine hs tk eB R S (fun c hc => nomatch hc) (g.step fun w h1 r1 v1 _ n1 e1 R1 q1 g1 => ?_)
    subst n1
    obtain ⟨rfl, o⟩ := q1
    exact g1.okI R1 (mk_str o)
  exact TM.of (pe_joined (pj_all _)) key
end
end L2.MP
namespace L2.MP
open PySem PySem.Spec PyProof.Rows
section
variable {cf : Cf} {G : Gl} {C : Nat → List D → Hs → MP.R D} {ec : EC} {k n : Nat} {B : RB} {N : List Str} {sc scope : Scope} {X : Cx} {e a b c tg iter elt tg1 iter1 : Expr} {es ifs : List Expr} {m ma mb mc mo me : E} {ms : List E} {pos p2 p : Pos}
def rDget : V → List V → Hp → VK → Prop := fun x xs H Q => ∃ a, x = .ref a ∧ ((∃ y o, xs = [y] ∧ DGet H a y o ∧ Q (o.getD .non) H) ∨ ∃ y d o, xs = [y, d] ∧ DGet H a y o ∧ Q (o.getD d) H)
theorem mt_dget (hu : X.A.units + 1 < cLine) : MtR X "dict.get" rDget := by
  intro pins s σ H x xs v us Q I rx rs h
  obtain ⟨a, rfl, h⟩ := h
  obtain rfl : v = Value.ref a := rx
  rcases h with ⟨y, o, rfl, g, q⟩ | ⟨y, d, o, rfl, g, q⟩
  · obtain ⟨u, rfl, r1⟩ := vals1 rs
    exact d_get1 hu I g r1 fun w' s3 I3 rw' => ⟨_, H, I3, rw', q⟩
  · obtain ⟨u1, u2, rfl, r1, r2⟩ := vals2 rs
    exact d_get2 hu I g r1 r2 fun w' s3 I3 rw' => ⟨_, H, I3, rw', q⟩
theorem get_run {r : RC} {x : D} {v : V} {xs : List D} {vs : List V} {σ : St} {Q : VK} {W : WX} (R : Rep r) (h : RV r x v) (hs : RVs r xs vs) (g : GV ec r σ Q W (mtD .get x xs r.ns)) : rDget v vs r.H Q := by
  have hx : (∃ k, xs = [k]) ∨ ∃ k d, xs = [k, d] := by
    clear h hs
    rcases xs with _ | ⟨y, _ | ⟨z, _ | ⟨u, zs⟩⟩⟩
    · cases x <;> exact False.elim g
    · exact .inl ⟨_, rfl⟩
    · exact .inr ⟨_, _, rfl⟩
    · cases x <;> exact False.elim g
  rcases hx with ⟨k, rfl⟩ | ⟨k, d, rfl⟩
  · obtain ⟨w, rfl, hw⟩ := RVs.single hs
    have g : GV ec r σ Q W ((MP.R.of (dicN r.ns x) r.ns).bind fun p h => if keyOk k then .ok ((getK k p.1 p.2).getD .non) h else .bad) := by
      cases x <;> exact g
    obtain ⟨⟨ks, us⟩, hd, g⟩ := Good.of g
    obtain ⟨hk, g⟩ := Good.ite g
    obtain ⟨i, kvs, rfl, rfl, e0, e1, rfl, e3, e4⟩ := dic_inv R hd h
    obtain ⟨q, rfl, e5, _⟩ := key_inv hk hw
    obtain ⟨f1, f2⟩ := getK_val (k := q) e4
    refine ⟨_, rfl, .inl ⟨_, _, rfl, DGet.k e1, ?_⟩⟩
    rw [← e5] at g
    cases hg : getK (keyD q) (kvs.map fun p => keyD p.1) us with
    | none =>
      simp only [hg, Option.getD_none] at g
      rw [f2 hg]
      exact done R g mk_non
    | some y =>
      simp only [hg, Option.getD_some] at g
      obtain ⟨z, e6, e7⟩ := f1 y hg
      rw [e6]
      exact done R g e7
  · obtain ⟨w, w2, rfl, hw, hw2⟩ := RVs.two hs
    have g : GV ec r σ Q W ((MP.R.of (dicN r.ns x) r.ns).bind fun p h => if keyOk k then .ok ((getK k p.1 p.2).getD d) h else .bad) := by
      cases x <;> exact g
    obtain ⟨⟨ks, us⟩, hd, g⟩ := Good.of g
    obtain ⟨hk, g⟩ := Good.ite g
    obtain ⟨i, kvs, rfl, rfl, e0, e1, rfl, e3, e4⟩ := dic_inv R hd h
    obtain ⟨q, rfl, e5, _⟩ := key_inv hk hw
    obtain ⟨f1, f2⟩ := getK_val (k := q) e4
    refine ⟨_, rfl, .inr ⟨_, _, _, rfl, DGet.k e1, ?_⟩⟩
    rw [← e5] at g
    cases hg : getK (keyD q) (kvs.map fun p => keyD p.1) us with
    | none =>
      simp only [hg, Option.getD_none] at g
      rw [f2 hg]
      exact done R g hw2
    | some y =>
      simp only [hg, Option.getD_some] at g
      obtain ⟨z, e6, e7⟩ := f1 y hg
      rw [e6]
      exact done R g e7
def kOf : D → Key
  | .int i => .inl i
  | .str s => .inr ⟨s.toArray⟩
  | _ => .inl 0
theorem kOf_D {d : D} (h : keyOk d = true) : keyD (kOf d) = d := by
  cases d <;> first | (cases h; done) | rfl
theorem nodup_of_map {α β : Type} {f : α → β} : ∀ {l : List α}, (l.map f).Nodup → l.Nodup
  | [], _ => List.nodup_nil
  | x :: l, h => by
    simp only [List.map_cons, List.nodup_cons] at h ⊢
    exact ⟨fun z => h.1 (List.mem_map.mpr ⟨x, z, rfl⟩), nodup_of_map h.2⟩
theorem mergeK_app {kvs : List (Key × V)} : ∀ {more : List (Key × V)}, (∀ p ∈ more, valV kvs p.1 = none) → (more.map (·.1)).Nodup → mergeK kvs more = kvs ++ more := by
  intro more
  induction more generalizing kvs with
  | nil => intro _ _; simp [mergeK]
  | cons p r ih =>
    intro h1 h2
    simp only [List.map_cons, List.nodup_cons] at h2
    have e : putK kvs p.1 p.2 = kvs ++ [p] := putK_new _ (h1 p (by simp))
    have := ih (kvs := kvs ++ [p]) (fun q hq => by
      have hn : ¬ q.1 = p.1 := fun z => h2.1 (z ▸ List.mem_map.mpr ⟨q, hq, rfl⟩)
      have := valV_snoc p.1 q.1 p.2 kvs (h1 p (by simp))
      rw [this, if_neg hn]
      exact h1 q (by simp [hq])) h2.2
    simp only [mergeK, List.foldl_cons] at this ⊢
    rw [e, this]
    simp
/-- the values, one by one -/
def SndL (G : Gl) (C : Nat → List D → Hs → MP.R D) (ec : EC) (B : RB) (X : Cx) : List Expr → List E → Prop
  | [], [] => True
  | e :: es, m :: ms => SndE G C ec B X e m ∧ SndL G C ec B X es ms
  | _, _ => False
theorem trK_cons {key : Option Expr} {ks : List (Option Expr)} {kd : List D} (h : trK (key :: ks) = some kd) : ∃ c k p d r, key = some (.Constant c k p) ∧ cst? c = some d ∧ keyOk d = true ∧ trK ks = some r ∧ kd = d :: r := by
  unfold trK at h
  cases key with
  | none => cases h
  | some e =>
    cases e <;> first | (cases h; done) | skip
    obtain ⟨d, h1, h⟩ := of_bind h
    split at h
    · rename_i hk
      obtain ⟨r, h2, rfl⟩ := Option.map_eq_some_iff.mp h
      exact ⟨_, _, _, d, r, rfl, h1, hk, h2, rfl⟩
    · cases h
theorem pairs_ok : ∀ {keys : List (Option Expr)} {vs : List Expr} {kd : List D} {ms : List E}, trK keys = some kd → SndL G C ec B X vs ms → keys.length = vs.length → (∃ trs, PPs X pos keys vs trs ∧ keys.all (·.isSome) = true ∧ kd.length = keys.length ∧ kd.all keyOk = true ∧ (∀ d ∈ kd, keyO (kOf d)) ∧
    ∀ ⦃W : WX⦄, Takes X W → ∀ ⦃σ : St⦄ ⦃r : RC⦄ ⦃sl : Sl⦄ ⦃Q : List (V × V) → Hp → Prop⦄, r.B = B → Rep r → RS r sl σ → Good ec RVs r σ (fun ws H => Q ((kd.map fun d => kV (kOf d)).zip ws) H) W (evEs G C ms sl r.ns) → tPairs trs σ r.H Q)
  | [], [], _, [], h, _, _ => by
    simp only [trK, Option.some.injEq] at h
    subst h
    refine ⟨[], pps_nil, rfl, rfl, rfl, (fun _ h => nomatch h), fun W tk σ r sl Q eB R S g => ?_⟩
    have := Good.okI (b := ([] : List V)) R g RVs.nil
    exact this
  | [], [], _, _ :: _, _, h, _ => False.elim h
  | [], _ :: _, _, _, _, _, h => nomatch h
  | _ :: _, [], _, _, _, _, h => nomatch h
  | _ :: _, _ :: _, _, [], _, h, _ => False.elim h
  | key :: keys, v :: vs, kd, m :: ms, h, hl, hn => by
    obtain ⟨c, kk, kp, d, rd, rfl, hc, hk, h2, rfl⟩ := trK_cons h
    obtain ⟨trs, p1, p2, p3, p4, p6, p5⟩ := pairs_ok h2 hl.2 (by simpa using hn)
    have ko : keyO (kOf d) := by
      cases c <;> simp only [cst?, Option.some.injEq] at hc <;> first | (subst hc; first | trivial | (cases hk; done)) | (cases hc; done) | skip
      split at hc
      · rename_i ho
        cases hc
        exact okB_ok ho
      · cases hc
    refine ⟨(TM X (.Constant c kk kp), TM X v) :: trs, pps_cons pe_tm pe_tm p1, by simp [p2], by simp [p3], by simp [hk, p4], (fun x hx => by
      rcases List.mem_cons.mp hx with rfl | hx
      · exact ko
      · exact p6 x hx), fun W tk σ r sl Q eB R S g => ?_⟩
    show TM X (.Constant c kk kp) σ r.H _
    have sk := snd_cst (G := G) (C := C) (ec := ec) (B := B) (X := X) (pos := kp) (j := kk) hc
    refine sk (sl := sl) tk eB R S ?_
    simp only [evE]
    intro r0 w0 n0 e0 R0 q0
    obtain ⟨q, rfl, e5, _⟩ := key_inv hk q0
    have eq : q = kOf d := keyD_inj (by rw [e5, kOf_D hk])
    subst eq
    simp only [evEs] at g
    rw [← n0] at g
    refine hl.1 tk (e0.B.trans eB) R0 (S.ext R e0) ((Good.ext e0 g).step fun x h1 r1 v1 _ n1 e1 R1 q1 g1 => ?_)
    subst n1
    refine p5 tk (e1.B.trans (e0.B.trans eB)) R1 ((S.ext R e0).ext R0 e1) (g1.step fun xs h2 r2 ws _ n2 e2 R2 q2 g2 => ?_)
    subst n2
    have := Good.okI (b := v1 :: ws) R2 g2 (RVs.cons (RV.ext R1 e2 q1) q2)
    exact this
theorem zip_kvs : ∀ {kd : List D} {ws : List V}, kd.length = ws.length → ((kd.map fun d => kV (kOf d)).zip ws) = (((kd.map kOf).zip ws)).map (fun kv => (kV kv.1, kv.2))
  | [], [], _ => rfl
  | d :: kd, w :: ws, h => by
    simp only [List.map_cons, List.zip_cons_cons, List.cons.injEq, true_and]
    exact zip_kvs (by simpa using h)
  | [], _ :: _, h => nomatch h
  | _ :: _, [], h => nomatch h
theorem snd_dct {keys : List (Option Expr)} {vs : List Expr} {kd : List D} (h0 : keys ≠ []) (h15 : keys.length ≤ 15) (ht : trK keys = some kd) (hv : SndL G C ec B X vs ms) (hl : keys.length = vs.length) : SndE G C ec B X (.Dict keys vs pos) (.dct kd ms) := by
  intro W tk σ r sl Q eB R S g
  obtain ⟨trs, p1, p2, p3, p4, p6, p5⟩ := pairs_ok (pos := pos) ht hv hl
  refine TM.of (pe_disp p1 p2 hl h0 h15) fun p hp => ?_
  simp only [evE, p4, if_true] at g
  obtain ⟨e1, R1, q1⟩ := R.nodeN (nd0 := .dic false [] []) (o := .dK []) hp ⟨[], rfl, rfl, (fun _ h => nomatch h), RVs.nil⟩
  refine p5 (r := r.growN p (.dK []) (.dic false [] [])) (sl := sl) tk (e1.B.trans eB) R1 (S.ext R e1) ?_
  refine (Good.ext e1 g).step fun xs h2 r2 ws _ n2 e2 R2 q2 g2 => ?_
  subst n2
  obtain ⟨⟨hlen, hnd, hget⟩, g2⟩ := Good.ite g2
  have lp : r2.loc r.ns.length = p := by
    rw [e2.loc r.ns.length (by show _ < (r.ns ++ [_]).length; simp)]
    exact if_pos rfl
  obtain ⟨o, ho, kv0, rfl, hk0, _, _⟩ := R2.nod r.ns.length _ hget
  rw [lp] at ho
  have : kv0 = [] := by
    cases kv0 with
    | nil => rfl
    | cons _ _ => cases hk0
  subst this
  have hw : kd.length = ws.length := by rw [← q2.length, hlen]
  refine ⟨ho, (kd.map kOf).zip ws, zip_kvs hw, ?_, ?_⟩
  · rw [List.length_zip, List.length_map]
    omega
  · have hkeys : ((kd.map kOf).zip ws).map (·.1) = kd.map kOf := by
      rw [List.map_fst_zip]
      rw [List.length_map]
      omega
    have hvals : ((kd.map kOf).zip ws).map (·.2) = ws := by
      rw [List.map_snd_zip]
      rw [List.length_map]
      omega
    have hkd : kd.map (fun d => keyD (kOf d)) = kd := by
      refine (List.map_congr_left fun d hd => kOf_D (List.all_eq_true.mp p4 d hd)).trans (List.map_id' _)
    have hndk : (kd.map kOf).Nodup := by
      have h1 : (kd.map fun d => keyD (kOf d)).Nodup := by rw [hkd]; exact hnd
      rw [show (kd.map fun d => keyD (kOf d)) = (kd.map kOf).map keyD by rw [List.map_map]; rfl] at h1
      exact nodup_of_map h1
    rw [mergeK_app (kvs := []) (fun _ _ => rfl) (by rw [hkeys]; exact hndk), List.nil_append]
    have ro : RO r2 (.dK ((kd.map kOf).zip ws)) (.dic false kd xs) := by
      refine ⟨_, rfl, ?_, fun q hq => ?_, by rw [hvals]; exact q2⟩
      · have := congrArg (List.map keyD) hkeys
        rw [List.map_map, List.map_map] at this
        exact (this.trans hkd).symm
      · have : q.1 ∈ kd.map kOf := by rw [← hkeys]; exact List.mem_map.mpr ⟨q, hq, rfl⟩
        obtain ⟨d, hd, e⟩ := List.mem_map.mp this
        rw [← e]
        exact p6 d hd
    obtain ⟨e', R'⟩ := R2.putN hget ro
    have fin := g2 (r2.putN r.ns.length (.dK ((kd.map kOf).zip ws)) (.dic false kd xs)) (.ref p) rfl e' R' (by
      simp only [RV]
      refine ⟨?_, by rw [show (r2.putN r.ns.length _ _).loc = r2.loc from rfl, lp]⟩
      show _ < (r2.ns.set _ _).length
      rw [List.length_set]
      exact get_lt hget)
    have eH : (r2.putN r.ns.length (.dK ((kd.map kOf).zip ws)) (.dic false kd xs)).H = upd r2.H p (.dK ((kd.map kOf).zip ws)) := by
      show upd r2.H (r2.loc r.ns.length) _ = _
      rw [lp]
    rw [eH] at fin
    exact fin
theorem rvs_rgF {r : RC} {a : Int} : ∀ ks : List Nat, RVs r (ks.map fun k => D.int (a + (k : Nat))) (ks.map fun k => V.int (a + (k : Nat)))
  | [] => RVs.nil
  | k :: ks => RVs.cons (mk_int _) (rvs_rgF ks)
theorem rvs_rg {r : RC} {a b : Int} : RVs r (rangeL a (b - a).toNat) (rgV a b) := rvs_rgF _
theorem snd_lrg1 (g0 : XG cf G C ec k B N sc X) {nd : Bool} (hcm : cf.calm = true) (hg1 : glo? sc "list" = true) (hf1 : ixOf cf.fns "list" = none) (hx1 : ixOf cf.exs "list" = none) (hg2 : glo? sc "range" = true) (hf2 : ixOf cf.fns "range" = none) (hx2 : ixOf cf.exs "range" = none)
    (he : starEach (a :: []) X.env = (false, eval a X.env) :: starEach [] X.env) (ha : SndE G C ec B X a ma) {pr px : Pos} : SndE G C ec B X (.Call (.Name "list" p) [.Call (.Name "range" px) [a] [] pr] [] pos) (.lrg (.cst (.int 0)) ma nd) := by
  intro W tk σ r sl Q eB R S g
  simp only [evE, MP.R.bind] at g
  replace g : GV ec r σ Q W ((evE G C ma sl r.ns).bind fun y h => match (D.int 0 : D), y with
    | .int i, .int j => if -1000000 ≤ i ∧ i ≤ 1000000 ∧ -1000000 ≤ j ∧ j ≤ 1000000 then lstOf nd (rangeL i (j - i).toNat) h else .bad
    | _, _ => .bad) := g
  obtain ⟨hc, hr, hxa⟩ := g0.calm hcm
  refine TM.of (pe_listRg hc (glo_gl g0 hg1) (g0.wf.bi _ (by decide +kernel) hf1 hx1) (prg_1 (glo_gl g0 hg2) (g0.wf.bi _ (by decide +kernel) hf2 hx2) pe_tm he)) (ha tk eB R S (g.step fun x h1 r1 v1 _ n1 e1 R1 q1 g1 => ?_))
  subst n1
  cases x <;> first | exact False.elim g1 | skip
  rename_i j _
  obtain ⟨hb, g1⟩ := Good.ite g1
  rw [rv_int q1]
  refine ⟨j, rfl, ⟨by omega, by omega, by omega, by omega, by omega⟩, fun q hq => mk_lstOf R1 (rvs_rg (a := 0) (b := j)) g1 hq⟩
theorem snd_lrg2 (g0 : XG cf G C ec k B N sc X) {nd : Bool} (hcm : cf.calm = true) (hg1 : glo? sc "list" = true) (hf1 : ixOf cf.fns "list" = none) (hx1 : ixOf cf.exs "list" = none) (hg2 : glo? sc "range" = true) (hf2 : ixOf cf.fns "range" = none) (hx2 : ixOf cf.exs "range" = none)
    (he : starEach (a :: [b]) X.env = (false, eval a X.env) :: starEach [b] X.env) (he2 : starEach (b :: []) X.env = (false, eval b X.env) :: starEach [] X.env) (ha : SndE G C ec B X a ma) (hb0 : SndE G C ec B X b mb) {pr px : Pos} : SndE G C ec B X (.Call (.Name "list" p) [.Call (.Name "range" px) [a, b] [] pr] [] pos) (.lrg ma mb nd) := by
  intro W tk σ r sl Q eB R S g
  simp only [evE] at g
  obtain ⟨hc, hr, hxa⟩ := g0.calm hcm
  have hp : (backTo pr (starEach [b] X.env)).any (·.1) = false := by rw [he2]; rfl
  refine TM.of (pe_listRg hc (glo_gl g0 hg1) (g0.wf.bi _ (by decide +kernel) hf1 hx1) (prg_2 (glo_gl g0 hg2) (g0.wf.bi _ (by decide +kernel) hf2 hx2) pe_tm pe_tm he he2 hp)) (ha tk eB R S (g.step fun x h1 r1 v1 _ n1 e1 R1 q1 g1 => ?_))
  subst n1
  refine hb0 tk (e1.B.trans eB) R1 (S.ext R e1) (g1.step fun y h2 r2 v2 _ n2 e2 R2 q2 g2 => ?_)
  subst n2
  cases x <;> first | exact False.elim g2 | skip
  cases y <;> first | exact False.elim g2 | skip
  rename_i i _ j _
  obtain ⟨hb, g2⟩ := Good.ite g2
  rw [rv_int q1, rv_int q2]
  refine ⟨i, j, rfl, rfl, ⟨by omega, by omega, by omega, by omega, by omega⟩, fun q hq => mk_lstOf R2 (rvs_rg (a := i) (b := j)) g2 hq⟩
end
end L2.MP
namespace L2.MP
open PySem PySem.Spec PyProof.Rows
section
variable {cf : Cf} {G : Gl} {C : Nat → List D → Hs → MP.R D} {ec : EC} {k n : Nat} {B : RB} {N : List Str} {sc scope : Scope} {X : Cx} {e a b c tg iter elt tg1 iter1 : Expr} {es ifs : List Expr} {m ma mb mc mo me : E} {ms : List E} {pos p2 p : Pos}
theorem gdIx_inv {i : Nat} (h : gdIx cf sc b = some i) : ∃ x p, b = .Name x p ∧ glo? sc x = true ∧ cf.gds[i]? = some x := by
  unfold gdIx at h
  split at h
  · split at h
    · rename_i hg
      exact ⟨_, _, rfl, hg, ixOf_get h⟩
    · cases h
  · cases h
theorem snd_gix (g0 : XG cf G C ec k B N sc X) {i : Nat} (hi : gdIx cf sc a = some i) (hp : PlainIx b) (hb : SndE G C ec B X b mb) : SndE G C ec B X (.Subscript a b pos) (.gix i mb) := by
  intro W tk σ r sl Q eB R S g
  simp only [evE] at g
  obtain ⟨x, px, rfl, hg, hx⟩ := gdIx_inv hi
  obtain ⟨pr, hpr, hdb, ad, hm, kd, hval, hhas⟩ := g0.wf.gd i x hx
  refine TM.of (pe_ix (ta := tC (.ref ad)) ix_kdict (pe_glob (glo_gl g0 hg) hm rfl hdb) pe_tm hp) (hb tk eB R S (g.step fun y h1 r1 v1 _ n1 e1 R1 q1 g1 => ?_))
  subst n1
  obtain ⟨d, hd⟩ : ∃ d, gixD G.gds i y = some d := by
    cases e : gixD G.gds i y with
    | none => rw [e] at g1; exact False.elim g1
    | some d => exact ⟨d, rfl⟩
  rw [hd] at g1
  replace g1 : GV ec r1 σ Q W (.ok d r1.ns) := g1
  cases y <;> first | (cases hd; done) | skip
  rename_i s _
  simp only [gixD, hpr, Option.bind_some] at hd
  obtain ⟨u, v, h1, h2, h3⟩ := hval s d hd
  obtain ⟨rfl, _⟩ := rv_str q1
  obtain ⟨es, n, kd⟩ := kd
  exact ⟨ad, _, v, rfl, rfl, ⟨es, n, u, kd.at_, kd.lit, h1, h2⟩, done R1 g1 (h3 r1 (by rw [e1.B, eB, g0.eK]))⟩
theorem gin_om (g0 : XG cf G C ec k B N sc X) {i : Nat} {x : Str} (hx : cf.gds[i]? = some x) {op : CmpOp} {ng : Bool} (ho : inOp op = some ng) : ∃ ad, X.mg x = some (.ref ad) ∧ (x == ("__debug__" : Str)) = false ∧ ∀ {r : RC} {y : D} {v : V} {t : Bool} {σ : St} {Q : VK}, RV r y v → ginD G.gds i y = some t → Q (.bl (t != ng)) r.H → OM X (compareOp op) σ v (.ref ad) r.H Q := by
  obtain ⟨pr, hpr, hd, ad, hm, ⟨es, n, kd⟩, hval, hhas⟩ := g0.wf.gd i x hx
  refine ⟨ad, hm, hd, fun {r y v t σ Q} q1 ht hq => ?_⟩
  cases y <;> first | (cases ht; done) | skip
  rename_i s
  simp only [ginD, hpr, Option.map_some, Option.some.injEq] at ht
  subst ht
  obtain ⟨rfl, _⟩ := rv_str q1
  obtain ⟨o, h1, h2⟩ := hhas s
  cases op <;> first | (cases ho; done) | skip
  · cases ho
    refine OM.of (op_in_kd kd) ⟨_, o, rfl, rfl, h1, ?_⟩
    rw [h2]
    simpa using hq
  · cases ho
    refine OM.of (op_notIn_kd kd) ⟨_, o, rfl, rfl, h1, ?_⟩
    rw [h2]
    simpa using hq
theorem gdIn_inv {op : CmpOp} {g : Bool × Nat} (h : gdIn cf sc op b = some g) : inOp op = some g.1 ∧ gdIx cf sc b = some g.2 := by
  unfold gdIn at h
  obtain ⟨x, h1, h⟩ := of_bind h
  obtain ⟨y, h2, rfl⟩ := Option.map_eq_some_iff.mp h
  exact ⟨h1, h2⟩
theorem snd_gin (g0 : XG cf G C ec k B N sc X) {op : CmpOp} {g : Bool × Nat} (hi : gdIn cf sc op b = some g) (ha : SndE G C ec B X a ma) : SndE G C ec B X (.Compare a [op] [b] pos) (.gin g.1 g.2 ma) ∧ SndT G C ec B X (.Compare a [op] [b] pos) (.gin g.1 g.2 ma) := by
  obtain ⟨ho, hi⟩ := gdIn_inv hi
  obtain ⟨x, px, rfl, hg, hx⟩ := gdIx_inv hi
  obtain ⟨ad, hm, hd, om⟩ := gin_om g0 hx ho
  have pb : PE X (.Name x px) (tC (.ref ad)) := pe_glob (glo_gl g0 hg) hm rfl hd
  have hmk : behindInMarks op (.Name x px) = false := by cases op <;> rfl
  constructor
  · intro W tk σ r sl Q eB R S g
    simp only [evE] at g
    refine TM.cmp hmk (ha tk eB R S (g.step fun y h1 r1 v1 _ n1 e1 R1 q1 g1 => ?_))
    subst n1
    obtain ⟨t, ht, g1⟩ := Good.of g1
    exact TM.of pb (om q1 ht (done R1 g1 (mk_bl _)))
  · intro W tk σ r sl Q eB R S gg
    have gg : Good ec eqR r σ Q W ((evE G C ma sl r.ns).bind fun x h => (MP.R.of (ginD G.gds g.2 x) h).bind fun b h => MP.R.of (truD h (.bl (b != g.1))) h) := by
      unfold evT at gg
      simp only [evE, Rbind_assoc] at gg
      exact gg
    refine TTM.of (pt_cmpR op_al pe_tm pb hmk) (ha tk eB R S (gg.step fun y h1 r1 v1 _ n1 e1 R1 q1 g1 => ?_))
    subst n1
    obtain ⟨t, ht, g1⟩ := Good.of g1
    intro σ2
    exact om q1 ht ⟨_, rfl, g1.okI R1 rfl⟩
theorem RVs.rev {r : RC} : ∀ {xs : List D} {vs : List V}, RVs r xs vs → RVs r xs.reverse vs.reverse
  | [], _, h => by rw [RVs.invN h]; exact RVs.nil
  | x :: xs, _, h => by
    obtain ⟨v, ws, rfl, h1, h2⟩ := RVs.inv h
    rw [List.reverse_cons, List.reverse_cons]
    exact (RVs.rev h2).append (RVs.cons h1 RVs.nil)
theorem snd_rev (g0 : XG cf G C ec k B N sc X) {nd : Bool} {kk : Nat} {p1 p2 p3 : Pos} (ha : SndE G C ec B X a ma) : SndE G C ec B X (.Subscript a (.Slice none none (some (.UnaryOp .USub (.Constant (.int 1) kk p1) p2)) p3) pos) (.rev ma nd) := by
  intro W tk σ r sl Q eB R S g
  simp only [evE] at g
  refine TM.of (pe_revL pe_tm) (ha tk eB R S (g.step fun x h1 r1 v1 _ n1 e1 R1 q1 g1 => ?_))
  subst n1
  obtain ⟨ys, hy, g1⟩ := Good.of g1
  obtain ⟨ad, us, rfl, p, q⟩ := lstV_inv R1 hy q1
  exact ⟨ad, us, rfl, SqL.of p, fun l hl => mk_lstOf R1 (RVs.rev q) g1 hl⟩
theorem digit_ok : ∀ c : Nat, c < 128 → Unicode.isDigit c = digit c := by decide +kernel
theorem snd_mt0_of {T id : String} {name : Str} {mm : MT} {q : V → List V → Hp → VK → Prop} (pa : PlainAttrs T) (slot : Slot T name id) (hty : typeOf (.builtin id) = pure (.type "method_descriptor")) (hm : MtR X id q)
    (h1 : ∀ (r : RC) (x : D) (v : V), r.B = B → Rep r → RV r x v → mtTy r.ns mm x = true → tyV X.K T v r.H)
    (h2 : ∀ (r : RC) (x : D) (v : V) (σ : St) (Q : VK) (W : WX), r.B = B → Rep r → RV r x v → mtTy r.ns mm x = true → GV ec r σ Q W (mtD mm x [] r.ns) → q v [] r.H Q)
    (hb : attributeBase a name X.env (eval a X.env) = eval a X.env) (hl : (Pos.endLine p == Pos.line pos) = true) (ha : SndE G C ec B X a ma) : SndE G C ec B X (.Call (.Attribute a name p) [] [] pos) (.mt mm ma []) := by
  intro W tk σ r sl Q eB R S g
  simp only [evE, evEs] at g
  refine TM.of (pe_bm0 pa slot hty hm pe_tm hb hl) (ha tk eB R S (g.step fun x h1' r1 v1 _ n1 e1 R1 q1 g1 => ?_))
  subst n1
  obtain ⟨ht, g1⟩ := Good.ite g1
  exact ⟨h1 r1 x v1 (e1.B.trans eB) R1 q1 ht, h2 r1 x v1 σ Q W (e1.B.trans eB) R1 q1 ht g1⟩
theorem isdigit_S {s : List Nat} (h : ascii s = true) : Txt.isdigit (SX.S s) = (!s.isEmpty && s.all digit) := by
  have h1 : ∀ c ∈ s, c < 128 := fun c hc => of_decide_eq_true (List.all_eq_true.mp h c hc)
  show (decide ((SX.S s).length > 0) && (SX.S s).cps.all Unicode.isDigit) = _
  have e1 : (SX.S s).cps.all Unicode.isDigit = s.all digit := by
    show s.toArray.all Unicode.isDigit = _
    rw [List.all_toArray]
    rw [Bool.eq_iff_iff, List.all_eq_true, List.all_eq_true]
    exact forall_congr' fun c => forall_congr' fun hc => by rw [digit_ok c (h1 c hc)]
  rw [e1, len_str]
  cases s <;> rfl
theorem snd_mt0 (g0 : XG cf G C ec k B N sc X) {mm : MT} {name : Str} (hm : mt0? name = some mm) (hl : (Pos.endLine p == Pos.line pos) = true) (hb : attributeBase a name X.env (eval a X.env) = eval a X.env) (ha : SndE G C ec B X a ma) : SndE G C ec B X (.Call (.Attribute a name p) [] [] pos) (.mt mm ma []) := by
  unfold mt0? at hm
  split at hm
  · rename_i hn
    subst hn
    cases hm
    refine snd_mt0_of PySem.F.plainAttrs_str PySem.F.slot_str_isdigit PySem.F.type_str_isdigit mt_isdigit (fun r x v eB R h ht => ?_) (fun r x v σ Q W eB R h ht g => ?_) hb hl ha
    · cases x <;> first | exact str_ty h rfl | (cases ht; done) | (simp [mtTy] at ht; done)
    · cases x <;> first | (cases ht; done) | (simp [mtTy] at ht; done) | skip
      rename_i s
      obtain ⟨rfl, o1⟩ := rv_str h
      simp only [mtD] at g
      obtain ⟨hz, g⟩ := Good.ite g
      refine ⟨_, rfl, rfl, trivial, ?_⟩
      show Q (.bl (Txt.isdigit (SX.S s))) r.H
      rw [isdigit_S hz.1]
      exact done R g (mk_bl _)
  · split at hm
    · rename_i hn
      subst hn
      cases hm
      refine snd_mt0_of PySem.F.plainAttrs_str PySem.F.slot_str_upper PySem.F.type_str_upper mt_upper (fun r x v eB R h ht => ?_) (fun r x v σ Q W eB R h ht g => ?_) hb hl ha
      · cases x <;> first | exact str_ty h rfl | (cases ht; done) | (simp [mtTy] at ht; done)
      · cases x <;> first | (cases ht; done) | (simp [mtTy] at ht; done) | skip
        rename_i s
        obtain ⟨rfl, o1⟩ := rv_str h
        simp only [mtD] at g
        obtain ⟨hz, g⟩ := Good.ite g
        refine ⟨_, rfl, rfl, by rw [len_str]; exact Nat.le_trans hz.2 (by decide), ?_⟩
        have ha1 : ∀ c ∈ s, c < 128 := fun c hc => of_decide_eq_true (List.all_eq_true.mp hz.1 c hc)
        have e1 : Txt.upper (SX.S s) = SX.S (s.map upC) := by
          rw [PyProof.Rows.upper_ascii (x := SX.S s) ha1]
          show (⟨s.toArray.map up1⟩ : Str) = ⟨(s.map upC).toArray⟩
          rw [List.map_toArray]
          rfl
        show Q (.str (Txt.upper (SX.S s))) r.H
        rw [e1]
        exact done R g (mk_str fun c hc => by
          obtain ⟨x, hx, rfl⟩ := List.mem_map.mp hc
          have := ha1 x hx
          unfold upC
          split <;> omega)
    · cases hm
theorem findIdx_eqv {a : D} {p : PyData} (ha : toPD a = some p) (hl : p.canLay0 = true) : ∀ {bs : List D} {ps : List PyData} {j : Nat}, toPDs bs = some ps → PyData.canLayAll0 ps = true → (bs.findIdx? fun z => eqT z a) = some j → ∃ z, ps[j]? = some z ∧ PyData.eqv z p = true ∧ ∀ m z', m < j → ps[m]? = some z' → PyData.eqv z' p = false
  | [], ps, j, h, _, q => by simp at q
  | b :: bs, ps, j, h, l, q => by
    obtain ⟨p1, ps1, e1, e2, rfl⟩ := toPDs_cons h
    simp only [PyData.canLayAll0, Bool.and_eq_true] at l
    have e3 := eqT_eqv e1 ha l.1 hl
    rw [List.findIdx?_cons] at q
    split at q
    · rename_i hb
      cases q
      exact ⟨p1, rfl, by rw [← e3]; exact hb, fun m z' hm => absurd hm (Nat.not_lt_zero _)⟩
    · rename_i hb
      obtain ⟨j', hj, rfl⟩ := Option.map_eq_some_iff.mp q
      obtain ⟨z, z1, z2, z3⟩ := findIdx_eqv ha hl e2 l.2 hj
      refine ⟨z, z1, z2, fun m z' hm hz => ?_⟩
      cases m with
      | zero =>
        cases hz
        rw [← e3]
        simpa using hb
      | succ m => exact z3 m z' (Nat.lt_of_succ_lt_succ hm) hz
theorem index_run (g0 : XG cf G C ec k B N sc X) {r : RC} {x : D} {v : V} {xs : List D} {vs : List V} {σ : St} {Q : VK} {W : WX} (eB : r.B = B) (R : Rep r) (h : RV r x v) (hs : RVs r xs vs) (g : GV ec r σ Q W (mtD .index x xs r.ns)) : rIndexD X.K v vs r.H Q := by
  have hx : ∃ y, xs = [y] := by
    clear h hs
    rcases xs with _ | ⟨y, _ | ⟨z, zs⟩⟩
    · cases x <;> exact False.elim g
    · exact ⟨_, rfl⟩
    · cases x <;> exact False.elim g
  obtain ⟨y, rfl⟩ := hx
  obtain ⟨w, rfl, hw⟩ := RVs.single hs
  simp only [mtD] at g
  obtain ⟨c, hc, g⟩ := Good.of g
  obtain ⟨ys, hy, g⟩ := Good.of g
  obtain ⟨bs, hb, g⟩ := Good.of g
  obtain ⟨j, hj, g⟩ := Good.of g
  obtain ⟨pd, p1⟩ := deep_dp R 40 y c w hc hw
  obtain ⟨ad, us, rfl, q1, q2⟩ := lstV_inv R hy h
  obtain ⟨ds, d1, d2, d3, d4⟩ := deeps_dp (fun d a v => deep_dp R 40 d a v) ys bs us hb q2
  obtain ⟨z, z1, z2, z3⟩ := findIdx_eqv p1.to p1.lay d2 d3 hj
  have eK : X.K = r.B.K := by rw [eB, g0.eK]
  refine ⟨ad, w, pd, ds, j, z, rfl, rfl, eK ▸ .lst (SqL.of q1) d1, eK ▸ p1.dp, ?_, p1.shaped (Nat.le_refl _), z1, z2, z3, done R g (mk_int _)⟩
  unfold SeqAt.shaped
  simp only [PyData.canLay0, d3, Bool.true_and, decide_eq_true_eq, PyData.depth]
  have d5 : PyData.depthAll ds ≤ 40 := d4
  exact decide_eq_true (by omega)
end
end L2.MP
namespace L2.MP
open PySem PySem.Spec PyProof.Rows
section
variable {cf : Cf} {G : Gl} {C : Nat → List D → Hs → MP.R D} {ec : EC} {k n : Nat} {B : RB} {N : List Str} {sc scope : Scope} {X : Cx} {e a b c tg iter elt : Expr} {es ifs : List Expr} {m ma mb mc mo me : E} {ms : List E} {pos p2 p : Pos}
theorem tr_star (h : trE cf n N sc e = some m) (es : List Expr) (env : Env) : starEach (e :: es) env = (false, eval e env) :: starEach es env := by
  cases e <;> first | rfl | skip
  cases n with
  | zero => cases h
  | succ n => unfold trE at h; cases h
theorem tr_stars : ∀ {n : Nat} {es : List Expr} {ms : List E}, trEs cf n N sc es = some ms → ∀ env, ∀ q ∈ starEach es env, q.1 = false
  | 0, _, _, h, _ => by cases h
  | n + 1, [], _, h, _ => fun q hq => nomatch hq
  | n + 1, e :: es, ms, h, env => by
    unfold trEs at h
    obtain ⟨a, h1, h⟩ := of_bind h
    obtain ⟨r, h2, h⟩ := of_bind h
    rw [tr_star h1]
    intro q hq
    rcases List.mem_cons.mp hq with rfl | hq
    · rfl
    · exact tr_stars h2 env q hq
theorem back_any {es : List Expr} {env : Env} (h : ∀ q ∈ starEach es env, q.1 = false) : (backTo pos (starEach es env)).any (·.1) = false := by
  unfold backTo
  rw [List.any_map]
  exact List.any_eq_false.mpr fun q hq => by simp [h q hq]
theorem back_all {es : List Expr} {env : Env} (h : ∀ q ∈ starEach es env, q.1 = false) : (List.all (backTo pos (starEach es env)) fun x => !Prod.fst x) = true := by
  unfold backTo
  rw [List.all_map]
  exact List.all_eq_true.mpr fun q hq => by simp [h q hq]
theorem tr_base (h : isCall0 e = false) (name : Str) (env : Env) : attributeBase e name env (eval e env) = eval e env := by
  cases e <;> first | rfl | skip
  rename_i f args kws pos
  cases f <;> first | rfl | skip
  cases args <;> first | rfl | skip
  cases kws <;> first | rfl | skip
  cases h
theorem tr_mark (h : trE cf n N sc e = some m) (op : CmpOp) : behindInMarks op e = false := by
  cases e <;> first | rfl | skip
  cases n with
  | zero => cases h
  | succ n => unfold trE at h; cases h
theorem tr_fold (h : ∀ a b c, e ≠ .Set a b c) (env : Env) (x : Value) : foldedSetIterable e env x = pure x := by
  cases e <;> first | rfl | skip
  exact absurd rfl (h _ _ _)
theorem tr_noset (h : trE cf n N sc e = some m) (a b c) : e ≠ .Set a b c := fun z => by
  subst z
  cases n with
  | zero => cases h
  | succ n => unfold trE at h; cases h
theorem tr_nosetI {mi : I} (h : trI cf n N sc e = some mi) (a b c) : e ≠ .Set a b c := fun z => by
  subst z
  cases n with
  | zero => cases h
  | succ n =>
    unfold trI at h
    obtain ⟨a, h1, _⟩ := Option.map_eq_some_iff.mp h
    exact tr_noset h1 _ _ _ rfl
theorem trEs_len : ∀ {n : Nat} {es : List Expr} {ms : List E}, trEs cf n N sc es = some ms → ms.length = es.length
  | 0, _, _, h => by cases h
  | n + 1, [], _, h => by unfold trEs at h; cases h; rfl
  | n + 1, e :: es, ms, h => by
    unfold trEs at h
    obtain ⟨a, h1, h⟩ := of_bind h
    obtain ⟨r, h2, h⟩ := of_bind h
    cases h
    simp [trEs_len h2]
theorem noFns_mem : ∀ {cs : List Expr}, noFns cf cs = true → ∀ x q, Expr.Name x q ∈ cs → ixOf cf.fns x = none
  | [], _, _, _, h => nomatch h
  | c :: cs, h, x, q, hm => by
    rcases List.mem_cons.mp hm with rfl | hm
    · simp only [noFns, Bool.and_eq_true, Option.isNone_iff_eq_none] at h
      exact h.1
    · refine noFns_mem ?_ x q hm
      cases c <;> first | exact h | (simp only [noFns, Bool.and_eq_true] at h; exact h.2)
/-- y = [..], the names of the list swapped with its own -/
def AsgLc (G : Gl) (C : Nat → List D → Hs → MP.R D) (ec : EC) (B : RB) (N : List Str) (X : Cx) (a : Expr) (m : E) : Prop :=
    ∀ {W : WX}, Takes X W → ∀ {i : Nat} {y : Str} {py spos : Pos} {σ : St} {r : RC} {sl : Sl} {D : Ends}, N[i]? = some y → X.env.scope.names.lookup y = some .local → swapsWith a (some (.Name y py)) spos.line X.env = pure true → r.B = B → Rep r → RS r sl σ →
      GV ec r σ (fun v H => D.nx (σ.set i (some v)) H) W (evE G C m sl r.ns) → ∀ (pins : List (Addr × Obj)) (s : Shared), Inv X pins σ r.H s → wpAny (model X.prog X.w) X.A (exec (.Assign [.Name y py] a spos) X.env) (SP X pins D) X.xe s
structure SndAll (cf : Cf) (G : Gl) (C : Nat → List D → Hs → MP.R D) (ec : EC) (k : Nat) (N : List Str) (n : Nat) (B : RB) (sc : Scope) (X : Cx) : Prop where
  e : ∀ {e m}, trE cf n N sc e = some m → SndE G C ec B X e m ∧ SndT G C ec B X e m
  b : ∀ {op es m}, trB cf n N sc op es = some m → ∀ pos, SndE G C ec B X (.BoolOp op es pos) m ∧ SndW G C ec B X (.BoolOp op es pos) m
  es : ∀ {es ms}, trEs cf n N sc es = some ms → SndA G C ec B X es ms
  L : ∀ {es ms}, trEs cf n N sc es = some ms → SndL G C ec B X es ms ∧ ∀ q ∈ starEach es X.env, q.1 = false
  o : ∀ {e m}, trO cf n N sc e = some m → SndO G C ec B X e m
  l : ∀ {elt0 gens sc2 p0 m}, trE cf n N sc (.ListComp elt0 gens sc2 p0) = some m → AsgLc G C ec B N X (.ListComp elt0 gens sc2 p0) m
  f : ∀ {es ms}, trF cf n N sc es = some ms → SndF G C ec B X es ms
  i : ∀ {e mi tg}, trI cf n N sc e = some mi → tgOk mi tg = true → SndI G C ec B X tg e mi ∧ ∀ a b c, e ≠ .Set a b c
theorem mt_snd1 (g0 : XG cf G C ec k B N sc X) {mm : MT} {name : Str} {nd : Bool} (hm : mt1? nd name = some mm) (he : starEach (e :: es) X.env = (false, eval e X.env) :: starEach es X.env) (hst : ∀ q ∈ starEach (e :: es) X.env, q.1 = false) (hln : (e :: es).length < 20) (hl : (Pos.endLine p == Pos.line pos) = true)
    (hb : attributeBase a name X.env (eval a X.env) = eval a X.env) (ha : SndE G C ec B X a ma) (hs : SndA G C ec B X (e :: es) ms) : SndE G C ec B X (.Call (.Attribute a name p) (e :: es) [] pos) (.mt mm ma ms) := by
  have hp : (backTo pos (starEach es X.env)).any (·.1) = false := back_any fun q hq => hst q (by rw [he]; exact List.mem_cons_of_mem _ hq)
  have hf : ((((List.all (backTo pos (starEach (e :: es) X.env)) fun x => !Prod.fst x) && List.all (backToKw pos (keywordEach [] X.env)) fun x => Option.isSome (Prod.fst x)) &&
      decide ((List.length (e :: es) + List.length ([] : List Keyword) + if List.isEmpty ([] : List Keyword) = true then 0 else 1) < 30)) = true) := by
    rw [back_all hst, Bool.true_and, Bool.and_eq_true]
    refine ⟨rfl, decide_eq_true ?_⟩
    simp only [List.length_nil, List.isEmpty_nil, if_true]
    omega
  have eK : ∀ r : RC, r.B = B → X.K = r.B.K := fun r eB => by rw [g0.eK, eB]
  unfold mt1? at hm
  split at hm
  · rename_i hn
    subst hn
    have hd : mm = .split ∨ mm = .splitN := by
      cases nd <;> cases hm <;> simp
    refine snd_mt_of PySem.F.plainAttrs_str PySem.F.slot_str_split PySem.F.type_str_split mt_split (fun r x v eB R h ht => ?_) (fun r x v xs vs σ Q W eB R h h2 ht g => ?_) hb hf hl he hp ha hs
    · rcases hd with rfl | rfl <;> (cases x <;> first | exact str_ty h rfl | (cases ht; done) | (simp [mtTy] at ht; done) | (simp [mtTy] at ht; done))
    · have hx : ∃ s c, x = .str s ∧ xs = [.str [c]] := by
        clear h h2
        rcases hd with rfl | rfl <;> clear ht
        all_goals
          cases x <;> first | exact False.elim g | skip
          rcases xs with _ | ⟨y, _ | ⟨z, zs⟩⟩ <;> first | exact False.elim g | skip
          · cases y <;> first | exact False.elim g | skip
            rename_i t
            rcases t with _ | ⟨c, _ | ⟨d, t⟩⟩ <;> first | exact False.elim g | skip
            exact ⟨_, _, rfl, rfl⟩
          · cases y <;> first | exact False.elim g | skip
            rename_i t
            rcases t with _ | ⟨c, _ | ⟨d, t⟩⟩ <;> exact False.elim g
      obtain ⟨s, c, rfl, rfl⟩ := hx
      obtain ⟨w, rfl, hw⟩ := RVs.single h2
      obtain ⟨rfl, o1⟩ := rv_str h
      obtain ⟨rfl, o2⟩ := rv_str hw
      have g2 : (c < 256 ∧ s.length + 2 ≤ lim) ∧ ∃ nd', GV ec r σ Q W (lstOf nd' ((splitL c s).map .str) r.ns) := by
        rcases hd with rfl | rfl
        · simp only [mtD] at g
          obtain ⟨hz, g⟩ := Good.ite g
          exact ⟨hz, false, g⟩
        · simp only [mtD] at g
          obtain ⟨hz, g⟩ := Good.ite g
          exact ⟨hz, true, g⟩
      obtain ⟨hz, nd', g⟩ := g2
      refine ⟨_, _, rfl, rfl, rfl, by rw [len_str]; exact le_line hz.2, fun p hp => ?_⟩
      show Q (.ref p) (upd r.H p (.lst ((Txt.split (SX.S s) (SX.S [c])).map V.str)))
      rw [split_ok hz.1]
      exact mk_lstOf R (rvs_strs (ok_split o1)) g hp
  · split at hm
    · rename_i hn
      subst hn
      cases hm
      refine snd_mt_of PySem.F.plainAttrs_str PySem.F.slot_str_join PySem.F.type_str_join mt_join (fun r x v eB R h ht => ?_) (fun r x v xs vs σ Q W eB R h h2 ht g => ?_) hb hf hl he hp ha hs
      · cases x <;> first | exact str_ty h rfl | (cases ht; done) | (simp [mtTy] at ht; done)
      · have hx : ∃ s y, x = .str s ∧ xs = [y] := by
          clear h h2 ht
          cases x <;> first | exact False.elim g | skip
          rcases xs with _ | ⟨y, _ | ⟨z, zs⟩⟩ <;> first | exact False.elim g | skip
          exact ⟨_, _, rfl, rfl⟩
        obtain ⟨s, y, rfl, rfl⟩ := hx
        obtain ⟨w, rfl, hw⟩ := RVs.single h2
        obtain ⟨rfl, o1⟩ := rv_str h
        simp only [mtD] at g
        obtain ⟨ws, hws, g⟩ := Good.of g
        obtain ⟨hz, g⟩ := Good.ite g
        obtain ⟨ys, hy, hb⟩ := Option.bind_eq_some_iff.mp hws
        obtain ⟨ad, us, rfl, p1, p2⟩ := seqV_inv R hy hw
        obtain ⟨e1, o2⟩ := strs_inv p2 hb
        rw [e1] at p1
        refine ⟨_, ad, ws.map SX.S, rfl, rfl, by rw [eK r eB]; exact p1, ?_, ?_⟩
        · have := join_len s ws
          simp only [List.map_map, List.length_map, len_str]
          have e2 : (List.map ((fun x : Str => x.length) ∘ SX.S) ws) = ws.map List.length := by
            apply List.map_congr_left
            intro t _
            exact len_str t
          rw [e2]
          have hz2 : (16777216 : Nat) ≥ lim := by decide
          omega
        · have ow : okS (joinL s ws) := ok_join o1 o2
          have ej : Txt.join (SX.S s) (ws.map SX.S) = SX.S (joinL s ws) := by rw [SX.join_S, join_eqL]
          show Q (.str (Txt.join (SX.S s) (ws.map SX.S))) r.H
          rw [ej]
          exact done R g (mk_str ow)
    · split at hm
      · rename_i hn
        subst hn
        cases hm
        refine snd_mt_of PySem.F.plainAttrs_str PySem.F.slot_str_partition PySem.F.type_str_partition mt_partition (fun r x v eB R h ht => ?_) (fun r x v xs vs σ Q W eB R h h2 ht g => part_run R h h2 g) hb hf hl he hp ha hs
        cases x <;> first | exact str_ty h rfl | (cases ht; done) | (simp [mtTy] at ht; done)
      · split at hm
        · rename_i hn
          subst hn
          cases hm
          refine snd_mt_of PySem.F.plainAttrs_list PySem.F.slot_list_append PySem.F.type_list_append mt_append (fun r x v eB R h ht => ?_) (fun r x v xs vs σ Q W eB R h h2 ht g => app_run R h h2 g) hb hf hl he hp ha hs
          cases x <;> first | (simp [mtTy] at ht; done) | skip
          rename_i i
          simp only [RV] at h
          obtain ⟨hi, rfl⟩ := h
          obtain ⟨nd, hnd⟩ : ∃ nd, r.ns[i]? = some nd := ⟨_, List.getElem?_eq_getElem hi⟩
          cases nd with
          | lst ys =>
            obtain ⟨us, h1, _⟩ := (R.nod i _ hnd).lst
            exact .inl ⟨rfl, us, SqL.of h1⟩
          | _ => simp [mtTy, hnd, isL] at ht
        · split at hm
          · rename_i hn
            subst hn
            cases hm
            refine snd_mt_of PySem.F.plainAttrs_list PySem.F.slot_list_extend PySem.F.type_list_extend mt_extend (fun r x v eB R h ht => ?_) (fun r x v xs vs σ Q W eB R h h2 ht g => ext_run R h h2 g) hb hf hl he hp ha hs
            cases x <;> first | (simp [mtTy] at ht; done) | skip
            rename_i i
            simp only [RV] at h
            obtain ⟨hi, rfl⟩ := h
            obtain ⟨nd, hnd⟩ : ∃ nd, r.ns[i]? = some nd := ⟨_, List.getElem?_eq_getElem hi⟩
            cases nd with
            | lst ys =>
              obtain ⟨us, h1, _⟩ := (R.nod i _ hnd).lst
              exact .inl ⟨rfl, us, SqL.of h1⟩
            | _ => simp [mtTy, hnd, isL] at ht
          · split at hm
            · rename_i hn
              subst hn
              cases hm
              refine snd_mt_of PySem.F.plainAttrs_dict PySem.F.slot_dict_get PySem.F.type_dict_get (mt_dget (by have := g0.room; omega)) (fun r x v eB R h ht => ?_) (fun r x v xs vs σ Q W eB R h h2 ht g => get_run R h h2 g) hb hf hl he hp ha hs
              obtain ⟨⟨ks, us⟩, hd⟩ := Option.isSome_iff_exists.mp (show (dicN r.ns x).isSome = true from ht)
              obtain ⟨i, kvs, rfl, rfl, e0, e1, rfl, e3, e4⟩ := dic_inv R hd h
              exact .inr (.inr (.inl ⟨rfl, .inl ⟨kvs, e1⟩⟩))
            · cases hm
theorem mt_snd (g0 : XG cf G C ec k B N sc X) {mm : MT} {name : Str} {nd : Bool} (hm : mt? nd name = some mm) (he : starEach (e :: es) X.env = (false, eval e X.env) :: starEach es X.env) (hst : ∀ q ∈ starEach (e :: es) X.env, q.1 = false) (hln : (e :: es).length < 20) (hl : (Pos.endLine p == Pos.line pos) = true)
    (hb : attributeBase a name X.env (eval a X.env) = eval a X.env) (ha : SndE G C ec B X a ma) (hs : SndA G C ec B X (e :: es) ms) : SndE G C ec B X (.Call (.Attribute a name p) (e :: es) [] pos) (.mt mm ma ms) := by
  unfold mt? at hm
  split at hm
  · rename_i hn
    subst hn
    have hp : (backTo pos (starEach es X.env)).any (·.1) = false := back_any fun q hq => hst q (by rw [he]; exact List.mem_cons_of_mem _ hq)
    cases nd with
    | true =>
      cases hm
      have hf : ((((List.all (backTo pos (starEach (e :: es) X.env)) fun x => !Prod.fst x) && List.all (backToKw pos (keywordEach [] X.env)) fun x => Option.isSome (Prod.fst x)) &&
          decide ((List.length (e :: es) + List.length ([] : List Keyword) + if List.isEmpty ([] : List Keyword) = true then 0 else 1) < 30)) = true) := by
        rw [back_all hst, Bool.true_and, Bool.and_eq_true]
        refine ⟨rfl, decide_eq_true ?_⟩
        simp only [List.length_nil, List.isEmpty_nil, if_true]
        omega
      refine snd_mt_of PySem.F.plainAttrs_str PySem.F.slot_str_index PySem.F.type_str_index mt_sindex (fun r x v eB R h ht => ?_) (fun r x v xs vs σ Q W eB R h h2 ht g => sidx_run R h h2 g) hb hf hl he hp ha hs
      cases x <;> first | exact str_ty h rfl | (cases ht; done) | (simp [mtTy] at ht; done)
    | false =>
      cases hm
      have hf : ((((List.all (backTo pos (starEach (e :: es) X.env)) fun x => !Prod.fst x) && List.all (backToKw pos (keywordEach [] X.env)) fun x => Option.isSome (Prod.fst x)) &&
          decide ((List.length (e :: es) + List.length ([] : List Keyword) + if List.isEmpty ([] : List Keyword) = true then 0 else 1) < 30)) = true) := by
        rw [back_all hst, Bool.true_and, Bool.and_eq_true]
        refine ⟨rfl, decide_eq_true ?_⟩
        simp only [List.length_nil, List.isEmpty_nil, if_true]
        omega
      refine snd_mt_of PySem.F.plainAttrs_list PySem.F.slot_list_index PySem.F.type_list_index (mt_indexD (by have := g0.room; omega)) (fun r x v eB R h ht => ?_) (fun r x v xs vs σ Q W eB R h h2 ht g => index_run g0 eB R h h2 g) hb hf hl he hp ha hs
      have eK : X.K = r.B.K := by rw [eB, g0.eK]
      obtain ⟨ys, hy⟩ : ∃ ys, lstV r.ns x = some ys := by
        cases x <;> first | (cases ht; done) | skip
        · exact ⟨_, rfl⟩
        · rename_i i
          simp only [mtTy] at ht
          cases e0 : r.ns[i]? with
          | none => rw [e0] at ht; cases ht
          | some nd0 =>
            rw [e0] at ht
            cases nd0 <;> first | (cases ht; done) | skip
            exact ⟨_, by simp only [lstV, e0]; rfl⟩
      obtain ⟨ad, us, rfl, q1, q2⟩ := lstV_inv R hy h
      exact .inl ⟨rfl, us, SqL.of q1⟩
  · exact mt_snd1 g0 hm he hst hln hl hb ha hs
theorem snd_all : ∀ (n : Nat) {B : RB} {sc : Scope} {X : Cx}, XG cf G C ec k B N sc X → SndAll cf G C ec k N n B sc X
  | 0, B, sc, X, g0 => ⟨(fun h => nomatch h), (fun h => nomatch h), (fun h => nomatch h), (fun h => nomatch h), (fun h => nomatch h), (fun h => nomatch h), (fun h => nomatch h), (fun h => nomatch h)⟩
  | n + 1, B, sc, X, g0 => by
    have ih := snd_all n g0
    have hlc : ∀ {elt0 : Expr} {g1 : Comprehension} {sc2 : Scope} {p0 : Pos} {m : E}, trE cf (n + 1) N sc (.ListComp elt0 [g1] sc2 p0) = some m → SndE G C ec B X (.ListComp elt0 [g1] sc2 p0) m ∧ AsgLc G C ec B N X (.ListComp elt0 [g1] sc2 p0) m := fun {elt0 g1 sc2 p0 m} h => by
      unfold trE at h
      obtain ⟨it, h1, h⟩ := of_bind h
      obtain ⟨t, h2, h⟩ := of_bind h
      obtain ⟨mc, h3, h⟩ := of_bind h
      obtain ⟨me, h4, h⟩ := of_bind h
      split at h
      · rename_i hk
        cases h
        simp only [Bool.and_eq_true, List.all_eq_true, List.contains_iff_mem] at hk
        obtain ⟨⟨⟨⟨hcm, htg⟩, hsy⟩, hix⟩, hbl⟩ := hk
        obtain ⟨tg1, it1, ifs1, as1⟩ := g1
        obtain rfl : as1 = 0 := eq_of_beq hsy
        have bx := fun s H Ca cl fp => blk_xg (scope := sc2) g0 hcm s H Ca cl fp
        obtain ⟨q1, q2⟩ := ih.i (tg := tg1) h1 htg
        have q := snd_lc (nd := hasP cf.nds p0) (pos := p0) (elt := elt0) (ifs := ifs1) (me := me) (mcs := mc) g0 hcm hbl (fun i hi => by simpa using hix i hi) (tr_fold q2 X.env) q1
          (fun s H Ca cl fp => trT_snd (bx s H Ca cl fp).ok.nd g0.eN (g0.calm hcm).1 (blk_tg s H Ca cl fp) n tg1 t false h2)
          (fun s H Ca cl fp => by
            cases ifs1 with
            | nil => cases h3; exact sndC_none
            | cons c0 cs =>
              cases cs with
              | nil =>
                obtain ⟨c1, h5, rfl⟩ := Option.map_eq_some_iff.mp h3
                exact sndC_some ((snd_all n (bx s H Ca cl fp)).e h5).2
              | cons c1 cs => cases h3)
          (fun s H Ca cl fp => ((snd_all n (bx s H Ca cl fp)).e h4).1)
        exact q
      · cases h
    have hlc2 : ∀ {elt0 : Expr} {g1 g2 : Comprehension} {sc2 : Scope} {p0 : Pos} {m : E}, trE cf (n + 1) N sc (.ListComp elt0 [g1, g2] sc2 p0) = some m → SndE G C ec B X (.ListComp elt0 [g1, g2] sc2 p0) m ∧ AsgLc G C ec B N X (.ListComp elt0 [g1, g2] sc2 p0) m := fun {elt0 g1 g2 sc2 p0 m} h => by
      unfold trE at h
      obtain ⟨it, h1, h⟩ := of_bind h
      obtain ⟨t, h2, h⟩ := of_bind h
      obtain ⟨it1, h3, h⟩ := of_bind h
      obtain ⟨t1, h4, h⟩ := of_bind h
      obtain ⟨me, h5, h⟩ := of_bind h
      split at h
      · rename_i hk
        cases h
        simp only [Bool.and_eq_true, List.all_eq_true, List.contains_iff_mem, List.isEmpty_iff] at hk
        obtain ⟨⟨⟨⟨⟨⟨⟨⟨⟨hcm, htg⟩, htg1⟩, hsy⟩, hsy1⟩, hif⟩, hif1⟩, hix⟩, hix1⟩, hbl⟩ := hk
        obtain ⟨tg1, iter1, ifs1, as1⟩ := g1
        obtain ⟨tg2, iter2, ifs2, as2⟩ := g2
        obtain rfl : as1 = 0 := eq_of_beq hsy
        obtain rfl : as2 = 0 := eq_of_beq hsy1
        obtain rfl : ifs1 = [] := hif
        obtain rfl : ifs2 = [] := hif1
        have bx := fun s H Ca cl fp => blk_xg (scope := sc2) g0 hcm s H Ca cl fp
        obtain ⟨q1, q2⟩ := ih.i (tg := tg1) h1 htg
        have q3 : ∀ s H Ca cl fp, SndI G C ec B (blkX X sc2 s H Ca cl fp) tg2 iter2 it1 ∧ ∀ a b c, iter2 ≠ .Set a b c := fun s H Ca cl fp => (snd_all n (bx s H Ca cl fp)).i (tg := tg2) h3 htg1
        have noset : ∀ a b c, iter2 ≠ .Set a b c := tr_nosetI h3
        have q := snd_lc2 (nd := hasP cf.nds p0) (pos := p0) (elt := elt0) (me := me) g0 hcm hbl (fun i hi => by simpa using hix i hi) (fun i hi => by simpa using hix1 i hi) (tr_fold q2 X.env) (fun env x => tr_fold noset env x) q1
          (fun s H Ca cl fp => trT_snd (bx s H Ca cl fp).ok.nd g0.eN (g0.calm hcm).1 (blk_tg s H Ca cl fp) n tg1 t false h2)
          (fun s H Ca cl fp => (q3 s H Ca cl fp).1)
          (fun s H Ca cl fp => trT_snd (bx s H Ca cl fp).ok.nd g0.eN (g0.calm hcm).1 (blk_tg s H Ca cl fp) n tg2 t1 false h4)
          (fun s H Ca cl fp => ((snd_all n (bx s H Ca cl fp)).e h5).1)
        exact q
      · cases h
    have he : ∀ {e m}, trE cf (n + 1) N sc e = some m → SndE G C ec B X e m ∧ SndT G C ec B X e m := fun {e m} h => by
      have h0 := h
      unfold trE at h
      split at h
      · obtain ⟨d, h1, rfl⟩ := Option.map_eq_some_iff.mp h
        have q := snd_cst (G := G) (C := C) (ec := ec) (B := B) (X := X) (pos := ‹Pos›) (j := ‹Nat›) h1
        exact ⟨q, snt_plain g0 (fun _ => rfl) q⟩
      · split at h
        · rename_i i hi
          cases h
          have q := snd_var (C := C) (pos := ‹Pos›) g0 hi
          exact ⟨q, snt_plain g0 (fun _ => rfl) q⟩
        · split at h
          · rename_i hg
            obtain ⟨i, h1, rfl⟩ := Option.map_eq_some_iff.mp h
            have q := snd_glb (C := C) (pos := ‹Pos›) g0 hg h1
            exact ⟨q, snt_plain g0 (fun _ => rfl) q⟩
          · cases h
      · obtain ⟨a, h1, h⟩ := of_bind h
        obtain ⟨b, h2, h⟩ := of_bind h
        cases h
        split
        · have q := snd_binN (pos := ‹Pos›) (op := ‹Operator›) g0 (ih.e h1).1 (ih.e h2).1
          exact ⟨q, snt_plain g0 (fun _ => rfl) q⟩
        · have q := snd_bin (pos := ‹Pos›) (op := ‹Operator›) g0 (ih.e h1).1 (ih.e h2).1
          exact ⟨q, snt_plain g0 (fun _ => rfl) q⟩
      · obtain ⟨a, h1, rfl⟩ := Option.map_eq_some_iff.mp h
        have q := snd_neg (pos := ‹Pos›) (ih.e h1).1
        exact ⟨q, snt_plain g0 (fun _ => rfl) q⟩
      · obtain ⟨a, h1, rfl⟩ := Option.map_eq_some_iff.mp h
        exact ⟨snd_not g0 (ih.e h1).1, snt_not (ih.e h1).2⟩
      · obtain ⟨q1, q2⟩ := ih.b h ‹Pos›
        exact ⟨q1, q2.t⟩
      · split at h
        · rename_i gg hgg
          obtain ⟨a, h1, rfl⟩ := Option.map_eq_some_iff.mp h
          exact snd_gin g0 hgg (ih.e h1).1
        · obtain ⟨a, h1, h⟩ := of_bind h
          obtain ⟨b, h2, h⟩ := of_bind h
          cases h
          exact ⟨snd_cmp g0 (tr_mark h2 _) (ih.e h1).1 (ih.e h2).1, snt_cmp g0 (tr_mark h2 _) (ih.e h1).1 (ih.e h2).1⟩
      · obtain ⟨a, h1, h⟩ := of_bind h
        obtain ⟨b, h2, h⟩ := of_bind h
        obtain ⟨c, h3, h⟩ := of_bind h
        cases h
        exact ⟨snd_chn g0 (tr_mark h3 _) (ih.e h1).1 (ih.e h2).1 (ih.e h3).1, snt_chn g0 (tr_mark h3 _) (ih.e h1).1 (ih.e h2).1 (ih.e h3).1⟩
      · obtain ⟨c, h1, h⟩ := of_bind h
        obtain ⟨a, h2, h⟩ := of_bind h
        obtain ⟨b, h3, h⟩ := of_bind h
        cases h
        exact ⟨snd_ifx (ih.e h1).2 (ih.e h2).1 (ih.e h3).1, snt_ifx (ih.e h1).2 (ih.e h2).2 (ih.e h3).2⟩
      · split at h
        · rename_i hl
          obtain ⟨ms, h1, rfl⟩ := Option.map_eq_some_iff.mp h
          split
          · have q := snd_kup (pos := ‹Pos›) (k1 := ‹Nat›) (by rw [trEs_len h1]; exact hl) (ih.es h1)
            exact ⟨q, snt_plain g0 (fun _ => rfl) q⟩
          · have q := snd_tup (pos := ‹Pos›) (k1 := ‹Nat›) (by rw [trEs_len h1]; exact hl) (ih.es h1)
            exact ⟨q, snt_plain g0 (fun _ => rfl) q⟩
        · cases h
      · cases h
        split
        · have q := snd_dctT (G := G) (C := C) (ec := ec) (B := B) (X := X) (pos := ‹Pos›)
          exact ⟨q, snt_plain g0 (fun _ => rfl) q⟩
        · have q := snd_emp (G := G) (C := C) (ec := ec) (B := B) (X := X) (pos := ‹Pos›)
          exact ⟨q, snt_plain g0 (fun _ => rfl) q⟩
      · rename_i key0 ks0 vs0 p0
        obtain ⟨kd, h1, h⟩ := of_bind h
        split at h
        · rename_i hl
          obtain ⟨ms, h2, rfl⟩ := Option.map_eq_some_iff.mp h
          have q := snd_dct (pos := p0) (by simp) hl.1 h1 (ih.L h2).1 hl.2.symm
          exact ⟨q, snt_plain g0 (fun _ => rfl) q⟩
        · cases h
      · split at h
        · rename_i hl
          obtain ⟨ms, h1, rfl⟩ := Option.map_eq_some_iff.mp h
          have q := snd_lst (pos := ‹Pos›) (nd := hasP cf.nds ‹Pos›) (by rw [trEs_len h1]; exact hl) (ih.es h1)
          exact ⟨q, snt_plain g0 (fun _ => rfl) q⟩
        · cases h
      · rename_i pos1 pos2
        obtain ⟨a, h1, h⟩ := of_bind h
        obtain ⟨lo, h2, h⟩ := of_bind h
        obtain ⟨hi, h3, h⟩ := of_bind h
        cases h
        have q := snd_sl (pos := pos2) (p2 := pos1) g0 (ih.e h1).1 (ih.o h2) (ih.o h3)
        exact ⟨q, snt_plain g0 (fun _ => rfl) q⟩
      · rename_i a0 kk0 p10 p20 p30 pos0
        obtain ⟨a, h1, rfl⟩ := Option.map_eq_some_iff.mp h
        have q := snd_rev (nd := hasP cf.nds pos0) (kk := kk0) (p1 := p10) (p2 := p20) (p3 := p30) (pos := pos0) g0 (ih.e h1).1
        exact ⟨q, snt_plain g0 (fun _ => rfl) q⟩
      · rename_i a0 i0 pos0 hns hns2
        have hp : PlainIx i0 := fun o i => by
          cases i0 with
          | Slice lo hi st pp =>
            cases st with
            | none => exact absurd rfl (hns lo hi pp)
            | some st => rfl
          | _ => rfl
        split at h
        · rename_i kx hkx
          obtain ⟨b, h2, rfl⟩ := Option.map_eq_some_iff.mp h
          have q := snd_gix (pos := pos0) g0 hkx hp (ih.e h2).1
          exact ⟨q, snt_plain g0 (fun _ => rfl) q⟩
        · obtain ⟨a, h1, h⟩ := of_bind h
          obtain ⟨b, h2, h⟩ := of_bind h
          cases h
          have q := snd_ix (pos := pos0) g0 hp (ih.e h1).1 (ih.e h2).1
          exact ⟨q, snt_plain g0 (fun _ => rfl) q⟩
      · rename_i elt0 g1 sc2 p0
        exact ⟨(hlc h0).1, snt_plain g0 (fun _ => rfl) (hlc h0).1⟩
      · rename_i x px es kws pos0
        split at h
        · rename_i hg
          split at h
          · rename_i f hf
            split at h
            · rename_i hk
              simp only [Bool.and_eq_true, List.isEmpty_iff] at hk
              obtain ⟨rfl, hcm⟩ := hk
              obtain ⟨ms, h1, rfl⟩ := Option.map_eq_some_iff.mp h
              cases es with
              | nil =>
                cases n with
                | zero => cases h1
                | succ n =>
                  unfold trEs at h1
                  cases h1
                  split
                  · have q := snd_iso0 (pos := pos0) (p := px) (C := C) g0 hg hf hcm
                    exact ⟨q, snt_plain g0 (fun _ => rfl) q⟩
                  · split
                    · have q := snd_isf0 (pos := pos0) (p := px) (C := C) g0 hg hf hcm
                      exact ⟨q, snt_plain g0 (fun _ => rfl) q⟩
                    · have q := snd_call0 (md := if hasP cf.roots pos0 then .root else if hasP cf.cuts pos0 then .cut else if memS cf.raws x then .raw else .pure) (pos := pos0) (p := px) (C := C) g0 hg hf hcm
                      exact ⟨q, snt_plain g0 (fun _ => rfl) q⟩
              | cons e1 es1 =>
                cases n with
                | zero => cases h1
                | succ n =>
                  have hst : starEach (e1 :: es1) X.env = (false, eval e1 X.env) :: starEach es1 X.env := by
                    have h2 := h1
                    unfold trEs at h2
                    obtain ⟨a, h3, _⟩ := of_bind h2
                    exact tr_star h3 _ _
                  have hb : (backTo pos0 (starEach es1 X.env)).any (·.1) = false := back_any fun q hq => tr_stars h1 X.env q (by rw [hst]; exact List.mem_cons_of_mem _ hq)
                  split
                  · have q := snd_iso (pos := pos0) (p := px) g0 hg hf hcm hst hb (ih.es h1)
                    exact ⟨q, snt_plain g0 (fun _ => rfl) q⟩
                  · split
                    · have q := snd_isf (pos := pos0) (p := px) g0 hg hf hcm hst hb (ih.es h1)
                      exact ⟨q, snt_plain g0 (fun _ => rfl) q⟩
                    · have q := snd_call (md := if hasP cf.roots pos0 then .root else if hasP cf.cuts pos0 then .cut else if memS cf.raws x then .raw else .pure) (pos := pos0) (p := px) g0 hg hf hcm hst hb (ih.es h1)
                      exact ⟨q, snt_plain g0 (fun _ => rfl) q⟩
            · cases h
          · rename_i hf
            split at h
            · rename_i hk
              obtain ⟨rfl, hxx, hkw⟩ := hk
              rw [Option.isNone_iff_eq_none] at hxx
              rw [List.isEmpty_iff] at hkw
              subst hkw
              split at h
              · split at h
                · rename_i a0 c0 pc hfx
                  rw [Option.isNone_iff_eq_none] at hfx
                  obtain ⟨a1, h1, h⟩ := of_bind h
                  obtain ⟨t, h2, rfl⟩ := Option.map_eq_some_iff.mp h
                  have q := snd_isi1 (p := px) (p2 := pc) (pos := pos0) g0 hg hf hxx hfx h2 (tr_star h1 _ _) (ih.e h1).1
                  exact ⟨q, snt_plain g0 (fun _ => rfl) q⟩
                · cases h
              · split at h
                · rename_i a0 cs k1 pc hfx
                  simp only [Bool.and_eq_true, decide_eq_true_eq, Bool.not_eq_true', List.isEmpty_eq_false_iff] at hfx
                  obtain ⟨⟨hn, hl⟩, hne⟩ := hfx
                  obtain ⟨a1, h1, h⟩ := of_bind h
                  obtain ⟨ts, h2, rfl⟩ := Option.map_eq_some_iff.mp h
                  cases ts with
                  | nil =>
                    cases cs with
                    | nil => exact absurd rfl hne
                    | cons c cs =>
                      cases c <;> first | (cases h2; done) | skip
                      simp only [tys?] at h2
                      obtain ⟨_, _, h2⟩ := of_bind h2
                      obtain ⟨_, _, h2⟩ := of_bind h2
                      cases h2
                  | cons t0 ts =>
                    have q := snd_isiT (p := px) (p2 := pc) (pos := pos0) (k1 := k1) g0 hl hg hf hxx (noFns_mem hn) h2 (tr_star h1 _ _) (ih.e h1).1
                    exact ⟨q, snt_plain g0 (fun _ => rfl) q⟩
                · cases h
              · cases h
            · split at h
              · rename_i hk
                obtain ⟨rfl, hcm, hkw, hxx, hro⟩ := hk
                rw [Option.isNone_iff_eq_none] at hxx
                rw [List.isEmpty_iff] at hkw
                subst hkw
                obtain ⟨ab, h1, h⟩ := of_bind h
                unfold rngOf at h1
                split at h1
                · split at h1
                  · rename_i hr
                    obtain ⟨rfl, hg2, hf2, hx2⟩ := hr
                    rw [Option.isNone_iff_eq_none] at hf2 hx2
                    split at h1
                    · cases h1
                      obtain ⟨a1, h2, h⟩ := of_bind h
                      obtain ⟨b1, h3, rfl⟩ := Option.map_eq_some_iff.mp h
                      cases h2
                      exact (fun q => ⟨q, snt_plain g0 (fun _ => rfl) q⟩) (snd_lrg1 g0 hcm hg hf hxx hg2 hf2 hx2 (tr_star h3 _ _) (ih.e h3).1)
                    · cases h1
                      obtain ⟨a1, h2, h⟩ := of_bind h
                      obtain ⟨b1, h3, rfl⟩ := Option.map_eq_some_iff.mp h
                      exact (fun q => ⟨q, snt_plain g0 (fun _ => rfl) q⟩) (snd_lrg2 g0 hcm hg hf hxx hg2 hf2 hx2 (tr_star h2 _ _) (tr_star h3 _ _) (ih.e h2).1 (ih.e h3).1)
                    · cases h1
                  · cases h1
                · cases h1
              · split at h
                rotate_left
                · cases h
                rename_i hk
                simp only [Bool.and_eq_true, List.isEmpty_iff, Bool.not_eq_true', List.isEmpty_eq_false_iff, Option.isNone_iff_eq_none] at hk
                obtain ⟨⟨rfl, hne⟩, hfx⟩ := hk
                obtain ⟨b1, h1, h⟩ := of_bind h
                split at h
                · rename_i hcm
                  obtain ⟨ms, h2, rfl⟩ := Option.map_eq_some_iff.mp h
                  cases es with
                  | nil => exact absurd rfl hne
                  | cons e1 es1 =>
                    cases n with
                    | zero => cases h2
                    | succ n =>
                      have hst : starEach (e1 :: es1) X.env = (false, eval e1 X.env) :: starEach es1 X.env := by
                        have h3 := h2
                        unfold trEs at h3
                        obtain ⟨a, h4, _⟩ := of_bind h3
                        exact tr_star h4 _ _
                      have hb : (backTo pos0 (starEach es1 X.env)).any (·.1) = false := back_any fun q hq => tr_stars h2 X.env q (by rw [hst]; exact List.mem_cons_of_mem _ hq)
                      have q := snd_bi (nd := hasP cf.nds pos0) (pos := pos0) (p := px) g0 hg hf hfx h1 hcm hst hb (ih.es h2)
                      exact ⟨q, snt_plain g0 (fun _ => rfl) q⟩
                · cases h
        · cases h
      · rename_i es0 p0
        split at h
        · cases h
        · rename_i hl
          obtain ⟨ms, h1, rfl⟩ := Option.map_eq_some_iff.mp h
          match es0, hl with
          | [], hl => exact absurd (by simp) hl
          | [_], hl => exact absurd (by simp) hl
          | e1 :: e2 :: es1, _ =>
            have q := snd_fstr (pos := p0) (ih.f h1)
            exact ⟨q, snt_plain g0 (fun _ => rfl) q⟩
      · rename_i elt0 g1 g2 sc2 p0
        exact ⟨(hlc2 h0).1, snt_plain g0 (fun _ => rfl) (hlc2 h0).1⟩
      · rename_i x0 q0 f0 p0
        obtain ⟨a1, h1, rfl⟩ := Option.map_eq_some_iff.mp h
        have q := snd_fld (pos := p0) (f := f0) g0 (tr_base rfl _ _) (ih.e h1).1
        exact ⟨q, snt_plain g0 (fun _ => rfl) q⟩
      · rename_i o0 mm ap cp
        split at h
        · rename_i hk
          simp only [Bool.and_eq_true, Bool.not_eq_true'] at hk
          obtain ⟨hl, hc0⟩ := hk
          obtain ⟨m1, h1, h⟩ := of_bind h
          obtain ⟨o1, h2, rfl⟩ := Option.map_eq_some_iff.mp h
          have q := snd_mt0 g0 h1 hl (tr_base hc0 _ _) (ih.e h2).1
          exact ⟨q, snt_plain g0 (fun _ => rfl) q⟩
        · cases h
      · rename_i o0 mm ap es cp hne0
        split at h
        · rename_i hk
          simp only [Bool.and_eq_true, decide_eq_true_eq, Bool.not_eq_true', List.isEmpty_eq_false_iff] at hk
          obtain ⟨⟨⟨hl, hln⟩, hne⟩, hc0⟩ := hk
          obtain ⟨m1, h1, h⟩ := of_bind h
          obtain ⟨o1, h2, h⟩ := of_bind h
          obtain ⟨ms, h3, rfl⟩ := Option.map_eq_some_iff.mp h
          cases es with
          | nil => exact absurd rfl hne
          | cons e1 es1 =>
            cases n with
            | zero => cases h3
            | succ n =>
              have hst : starEach (e1 :: es1) X.env = (false, eval e1 X.env) :: starEach es1 X.env := by
                have h4 := h3
                unfold trEs at h4
                obtain ⟨a, h5, _⟩ := of_bind h4
                exact tr_star h5 _ _
              have q := mt_snd g0 h1 hst (tr_stars h3 X.env) hln hl (tr_base hc0 _ _) (ih.e h2).1 (ih.es h3)
              exact ⟨q, snt_plain g0 (fun _ => rfl) q⟩
        · cases h
      · cases h
    refine ⟨he, fun {op es m} h pos => ?_, fun {es ms} h => ?_, fun {es ms} h => ?_, fun {e m} h => ?_, fun {elt0 gens sc2 p0 m} h => ?_, fun {es ms} h => ?_, fun {e mi tg} h ht => ?_⟩
    · unfold trB at h
      split at h
      · cases h
      · exact ⟨snd_one (ih.e h).1, snw_one (ih.e h).2⟩
      · rename_i e0 es0 hne
        obtain ⟨a, h1, h⟩ := of_bind h
        obtain ⟨b, h2, h⟩ := of_bind h
        cases h
        obtain ⟨q1, q2⟩ := ih.b h2 pos
        cases es0 with
        | nil => exact absurd rfl hne
        | cons e1 es1 =>
          cases op with
          | And => exact ⟨snd_and g0 (ih.e h1).1 q1, snw_and (ih.e h1).2 q2⟩
          | Or => exact ⟨snd_or g0 (ih.e h1).1 q1, snw_or (ih.e h1).2 q2⟩
    · cases es with
      | nil =>
        unfold trEs at h
        cases h
        exact snd_a_nil
      | cons e1 es1 =>
        unfold trEs at h
        obtain ⟨a, h1, h⟩ := of_bind h
        obtain ⟨r, h2, h⟩ := of_bind h
        cases h
        exact snd_a_cons (tr_star h1 _ _) (ih.e h1).1 (ih.es h2)
    · refine ⟨?_, tr_stars h X.env⟩
      cases es with
      | nil =>
        unfold trEs at h
        cases h
        exact trivial
      | cons e1 es1 =>
        unfold trEs at h
        obtain ⟨a, h1, h⟩ := of_bind h
        obtain ⟨r, h2, h⟩ := of_bind h
        cases h
        exact ⟨(ih.e h1).1, (ih.L h2).1⟩
    · cases e with
      | none =>
        unfold trO at h
        cases h
        exact snd_o_none
      | some e1 =>
        unfold trO at h
        obtain ⟨a, h1, rfl⟩ := Option.map_eq_some_iff.mp h
        exact snd_o_some (ih.e h1).1
    · rcases gens with _ | ⟨g1, _ | ⟨g2, _ | ⟨g3, gs⟩⟩⟩
      · unfold trE at h; cases h
      · exact (hlc h).2
      · exact (hlc2 h).2
      · unfold trE at h; cases h
    · cases es with
      | nil =>
        unfold trF at h
        cases h
        exact snf_nil
      | cons e1 es1 =>
        unfold trF at h
        obtain ⟨a, h1, h⟩ := of_bind h
        obtain ⟨r, h2, h⟩ := of_bind h
        cases h
        refine snf_cons (by decide) rfl ?_ (ih.f h2)
        split at h1
        · exact .inl ⟨_, _, rfl, (ih.e h1).1⟩
        · split at h1
          · rename_i s0 k0 q0 hok
            cases h1
            exact .inr ⟨_, rfl, snd_cst (by simp only [cst?]; rw [if_pos hok]), fun a q z => nomatch z⟩
          · cases h1
        · cases h1
    · unfold trI at h
      split at h
      · rename_i x px es kws pos0
        split at h
        · rename_i hk
          simp only [Bool.and_eq_true, Option.isNone_iff_eq_none] at hk
          obtain ⟨⟨⟨hg, hf⟩, hx⟩, _⟩ := hk
          refine ⟨?_, fun _ _ _ z => nomatch z⟩
          split at h
          · split at h
            · rename_i hxn
              subst hxn
              obtain ⟨a, h1, rfl⟩ := Option.map_eq_some_iff.mp h
              exact sni_rng1 g0 hg hf hx (tr_star h1 _ _) (ih.e h1).1
            · split at h
              · rename_i hxn
                subst hxn
                obtain ⟨a, h1, rfl⟩ := Option.map_eq_some_iff.mp h
                cases tg <;> first | (cases ht; done) | skip
                exact sni_enum g0 hg hf hx (tr_star h1 _ _) (ih.e h1).1
              · cases h
          · split at h
            · rename_i hxn
              subst hxn
              obtain ⟨a, h1, h⟩ := of_bind h
              obtain ⟨b, h2, rfl⟩ := Option.map_eq_some_iff.mp h
              exact sni_rng2 g0 hg hf hx (by rw [tr_star h1, tr_star h2]; rfl) (tr_star h2 _ _) (ih.e h1).1 (ih.e h2).1
            · cases h
          · split at h
            · rename_i hxn
              obtain ⟨rfl, rfl⟩ := hxn
              obtain ⟨a, h1, rfl⟩ := Option.map_eq_some_iff.mp h
              cases tg <;> first | (cases ht; done) | skip
              exact sni_enum1 g0 hg hf hx (tr_star h1 _ _) (ih.e h1).1
            · cases h
          · split at h
            · rename_i hxn
              obtain ⟨rfl, rfl⟩ := hxn
              obtain ⟨a, h1, h⟩ := of_bind h
              obtain ⟨b, h2, rfl⟩ := Option.map_eq_some_iff.mp h
              cases tg <;> first | (cases ht; done) | skip
              exact sni_zip g0 hg hf hx (by rw [tr_star h1, tr_star h2]; rfl) (tr_star h2 _ _) (ih.e h1).1 (ih.e h2).1
            · cases h
          · cases h
        · obtain ⟨a, h1, rfl⟩ := Option.map_eq_some_iff.mp h
          exact ⟨sni_ex g0 (ih.e h1).1, tr_noset h1⟩
      · obtain ⟨a, h1, rfl⟩ := Option.map_eq_some_iff.mp h
        exact ⟨sni_ex g0 (ih.e h1).1, tr_noset h1⟩
end
end L2.MP
namespace L2.MP
open PySem PySem.Spec PyProof.Rows
def SM (X : Cx) (st : Stmt) : TS := fun D σ H => ∀ (pins : List (Addr × Obj)) (s : Shared), Inv X pins σ H s → wpAny (model X.prog X.w) X.A (exec st X.env) (SP X pins D) X.xe s
theorem ps_sm {X : Cx} {st : Stmt} : PS X st (SM X st) := ⟨fun pins s _ _ _ I h => h pins s I⟩
theorem SM.of {X : Cx} {st : Stmt} {t : TS} {D : Ends} {σ : St} {H : Hp} (h : PS X st t) (q : t D σ H) : SM X st D σ H := fun pins s I => h.run pins s σ H D I q
def SMs (X : Cx) (st : List Stmt) : TS := fun D σ H => ∀ (pins : List (Addr × Obj)) (s : Shared), Inv X pins σ H s → wpAny (model X.prog X.w) X.A (execs st X.env) (SP X pins D) X.xe s
theorem pss_sms {X : Cx} {st : List Stmt} : PSs X st (SMs X st) := ⟨fun pins s _ _ _ I h => h pins s I⟩
theorem SMs.of {X : Cx} {st : List Stmt} {t : TS} {D : Ends} {σ : St} {H : Hp} (h : PSs X st t) (q : t D σ H) : SMs X st D σ H := fun pins s I => h.run pins s σ H D I q
/-- what must follow a statement's end -/
def GQ (ec : EC) (r : RC) (D : Ends) (W : WX) : MP.Q → Prop
  | .ok .nx sl h => ∀ r' σ', r'.ns = h → Ext r r' → Rep r' → RS r' sl σ' → D.nx σ' r'.H
  | .ok (.rt d) sl h => ∀ r' v, r'.ns = h → Ext r r' → Rep r' → RV r' d v → D.rt v r'.H
  | .ok .bk sl h => ∀ r' σ', r'.ns = h → Ext r r' → Rep r' → RS r' sl σ' → D.bk σ' r'.H
  | .ok .ct sl h => ∀ r' σ', r'.ns = h → Ext r r' → Rep r' → RS r' sl σ' → D.ct σ' r'.H
  | .exc c fs sl h => ∀ r' σ' d, r'.ns = h → Ext r r' → Rep r' → RS r' sl σ' → ExR r' c fs d → W (ec c) d σ' r'.H
  | .bad => False
section
variable {cf : Cf} {G : Gl} {C : Nat → List D → Hs → MP.R D} {ec : EC} {k n : Nat} {B : RB} {N : List Str} {sc scope : Scope} {X : Cx} {e a b c tg iter elt : Expr} {es ifs : List Expr} {m ma mb mc mo me : E} {ms : List E} {pos p2 p : Pos} {r r' : RC} {D0 : Ends} {W : WX} {σ : St} {sl : Sl}
theorem GQ.ext {q : MP.Q} (e : Ext r r') (g : GQ ec r D0 W q) : GQ ec r' D0 W q := by
  cases q with
  | ok f sl h => cases f <;> exact fun r2 s n e2 => g r2 s n (e.trans e2)
  | exc c fs sl h => exact fun r2 s d n e2 => g r2 s d n (e.trans e2)
  | bad => exact g
theorem GQ.step {α β : Type} {rel : RC → α → β → Prop} {Q : β → Hp → Prop} {x : MP.R α} {f : α → Hs → MP.Q} (R : Rep r) (S : RS r sl σ) (g : GQ ec r D0 W (x.q sl f))
    (kk : ∀ a h1 r1 b, x = .ok a h1 → r1.ns = h1 → Ext r r1 → Rep r1 → rel r1 a b → RS r1 sl σ → GQ ec r1 D0 W (f a h1) → Q b r1.H) : Good ec rel r σ Q W x := by
  cases x with
  | ok a h1 => exact fun r1 b n e R1 q => kk a h1 r1 b rfl n e R1 q (S.ext R e) (GQ.ext e g)
  | exc c fs h1 => exact fun r1 d n e R1 q => g r1 σ d n e R1 (S.ext R e) q
  | bad => exact g
theorem GQ.of {α : Type} {o : Option α} {f : α → Hs → MP.Q} {h : Hs} (g : GQ ec r D0 W ((MP.R.of o h).q sl f)) : ∃ a, o = some a ∧ GQ ec r D0 W (f a h) := by
  cases o with
  | none => exact False.elim g
  | some a => exact ⟨a, rfl, g⟩
theorem Rq_bind {α β : Type} (x : MP.R α) (g : α → Hs → MP.R β) (f : β → Hs → MP.Q) : (x.bind g).q sl f = x.q sl fun a h => (g a h).q sl f := by
  cases x <;> rfl
def SndS (G : Gl) (C : Nat → List D → Hs → MP.R D) (ec : EC) (B : RB) (X : Cx) (st : Stmt) (m : S) : Prop :=
  ∀ ⦃W : WX⦄, Takes X W → ∀ ⦃σ : St⦄ ⦃r : RC⦄ ⦃sl : Sl⦄ ⦃D0 : Ends⦄, r.B = B → Rep r → RS r sl σ → GQ ec r D0 W (evS G C m sl r.ns) → SM X st D0 σ r.H
def SndSs (G : Gl) (C : Nat → List D → Hs → MP.R D) (ec : EC) (B : RB) (X : Cx) (st : List Stmt) (m : List S) : Prop :=
  ∀ ⦃W : WX⦄, Takes X W → ∀ ⦃σ : St⦄ ⦃r : RC⦄ ⦃sl : Sl⦄ ⦃D0 : Ends⦄, r.B = B → Rep r → RS r sl σ → GQ ec r D0 W (evSs G C m sl r.ns) → SMs X st D0 σ r.H
theorem ss_nil : SndSs G C ec B X [] [] := by
  intro W tk σ r sl D0 eB R S g
  simp only [evSs] at g
  exact SMs.of pss_nil (g r σ rfl (Ext.refl r) R S)
theorem ss_cons {st : Stmt} {sts : List Stmt} {m : S} {ms : List S} (h1 : SndS G C ec B X st m) (h2 : SndSs G C ec B X sts ms) : SndSs G C ec B X (st :: sts) (m :: ms) := by
  intro W tk σ r sl D0 eB R S g
  simp only [evSs] at g
  refine SMs.of (pss_cons ps_sm pss_sms) (h1 tk eB R S ?_)
  cases e : evS G C m sl r.ns with
  | ok f sl1 h =>
    rw [e] at g
    cases f with
    | nx =>
      intro r1 σ1 n1 e1 R1 S1
      subst n1
      exact h2 tk (e1.B.trans eB) R1 S1 (GQ.ext e1 g)
    | rt d => exact g
    | bk => exact g
    | ct => exact g
  | exc c fs sl1 h => rw [e] at g; exact g
  | bad => rw [e] at g; exact g
theorem ss_pass : SndS G C ec B X (.Pass pos) .pass := by
  intro W tk σ r sl D0 eB R S g
  simp only [evS] at g
  exact SM.of ps_pass (g r σ rfl (Ext.refl r) R S)
theorem ss_doc {x : Str} {j : Nat} : SndS G C ec B X (.Expr (.Constant (.str x) j p) pos) .pass := by
  intro W tk σ r sl D0 eB R S g
  simp only [evS] at g
  exact SM.of ps_doc (g r σ rfl (Ext.refl r) R S)
theorem ss_brk : SndS G C ec B X (.Break pos) .brk := by
  intro W tk σ r sl D0 eB R S g
  simp only [evS] at g
  exact SM.of ps_break (g r σ rfl (Ext.refl r) R S)
theorem ss_cnt : SndS G C ec B X (.Continue pos) .cnt := by
  intro W tk σ r sl D0 eB R S g
  simp only [evS] at g
  exact SM.of ps_continue (g r σ rfl (Ext.refl r) R S)
theorem ss_retN : SndS G C ec B X (.Return none pos) (.ret none) := by
  intro W tk σ r sl D0 eB R S g
  simp only [evS] at g
  exact SM.of ps_retN (g r .non rfl (Ext.refl r) R mk_non)
theorem ss_ret (ha : SndE G C ec B X a ma) : SndS G C ec B X (.Return (some a) pos) (.ret (some ma)) := by
  intro W tk σ r sl D0 eB R S g
  simp only [evS] at g
  refine SM.of (ps_ret pe_tm) (ha tk eB R S (g.step R S fun x h1 r1 v1 _ n1 e1 R1 q1 S1 g1 => ?_))
  subst n1
  exact g1 r1 v1 rfl (Ext.refl r1) R1 q1
theorem ss_ex (hs : ∀ l, swapsWith a none l X.env = pure false) (ha : SndE G C ec B X a ma) : SndS G C ec B X (.Expr a pos) (.ex ma) := by
  intro W tk σ r sl D0 eB R S g
  simp only [evS] at g
  refine SM.of (ps_expr pe_tm (hs _)) (ha tk eB R S (g.step R S fun x h1 r1 v1 _ n1 e1 R1 q1 S1 g1 => ?_))
  subst n1
  exact g1 r1 σ rfl (Ext.refl r1) R1 S1
theorem ss_ite {x y : List Stmt} {mx my : List S} (hc : SndT G C ec B X c mc) (hx : SndSs G C ec B X x mx) (hy : SndSs G C ec B X y my) : SndS G C ec B X (.If c x y pos) (.ite mc mx my) := by
  intro W tk σ r sl D0 eB R S g
  have g : GQ ec r D0 W ((evT G C mc sl r.ns).q sl fun t h => if t then evSs G C mx sl h else evSs G C my sl h) := by
    unfold evT
    rw [Rq_bind]
    simpa only [evS] using g
  refine SM.of (ps_if pt_ttm pss_sms pss_sms) (hc tk eB R S (g.step R S fun t h1 r1 v1 _ n1 e1 R1 q1 S1 g1 => ?_))
  subst n1
  cases q1
  cases t with
  | true => exact hx tk (e1.B.trans eB) R1 S1 g1
  | false => exact hy tk (e1.B.trans eB) R1 S1 g1
/-- x = e -/
theorem ss_name {x : Str} {i : Nat} {px : Pos} (hN : X.N.Nodup) (hi : X.N[i]? = some x) (hl : L2.Loc X.env.scope x) (hf : X.fn x = true ∨ X.env.scope.names.lookup x = some .local) (hs : ∀ l, swapsWith a (some (.Name x px)) l X.env = pure false) (ha : SndE G C ec B X a ma) : SndS G C ec B X (.Assign [.Name x px] a pos) (.asg (.nm i) ma) := by
  intro W tk σ r sl D0 eB R S g
  simp only [evS] at g
  refine SM.of (ps_set (i := i) hN hi hl pe_tm (hs _) hf) (ha tk eB R S (g.step R S fun y h1 r1 v1 _ n1 e1 R1 q1 S1 g1 => ?_))
  subst n1
  obtain ⟨sl2, h2, g1⟩ := GQ.of g1
  simp only [asgT, Option.some.injEq] at h2
  subst h2
  exact g1 r1 _ rfl (Ext.refl r1) R1 (S1.set q1)
/-- a target of any other form = e -/
theorem ss_tup {t : T} {g0 : XG cf G C ec k B N sc X} (hs : ∀ l, swapsWithSole [tg] a l X.env = pure false) (hs2 : swappedStores [tg] a X.env = pure none) (hs3 : (assignEach [tg] X.env).map (·.2) = [assign tg X.env]) (hg : SndG X tg t) (ha : SndE G C ec B X a ma) : SndS G C ec B X (.Assign [tg] a pos) (.asg t ma) := by
  intro W tk σ r sl D0 eB R S g
  simp only [evS] at g
  refine SM.of (ps_asg pe_tm pg_gm (hs _) hs2 hs3) (ha tk eB R S (g.step R S fun y h1 r1 v1 _ n1 e1 R1 q1 S1 g1 => ?_))
  subst n1
  obtain ⟨sl2, h2, g1⟩ := GQ.of g1
  exact hg (by rw [e1.B, eB, g0.eK]) R1 q1 S1 h2 fun σ' S' _ => g1 r1 _ rfl (Ext.refl r1) R1 S'
def rSet2 : V → V → V → Hp → (Hp → Prop) → Prop := fun o i v H Q => rSetL o i v H Q ∨ ∃ a H', o = .ref a ∧ DPut H a i v H' ∧ Q H'
theorem set_all {X : Cx} (hu : X.A.units + 1 < cLine) : PSet X rSet2 := by
  intro pins s σ H o i v ov iv u Q I ro ri rv h
  rcases h with h | ⟨a, H', rfl, g, q⟩
  · exact set_list pins s σ H o i v ov iv u Q I ro ri rv h
  · obtain rfl : ov = Value.ref a := ro
    exact d_setItem hu I g ri rv fun s' I' => ⟨H', I', q⟩
theorem sto_run {r : RC} {D0 : Ends} {W : WX} {o i v : D} {vo vi vv : V} {sl : Sl} {σ : St} (R : Rep r) (S : RS r sl σ) (h1 : RV r o vo) (h2 : RV r i vi) (h3 : RV r v vv) (g : GQ ec r D0 W ((stoD o i v r.ns).q sl fun _ h => .ok .nx sl h)) : rSet2 vo vi vv r.H fun H => D0.nx σ H := by
  unfold stoD at g
  split at g
  · rename_i a kk
    simp only [RV] at h1
    obtain ⟨hi, rfl⟩ := h1
    split at g
    · rename_i xs hx
      obtain ⟨us, p1, p2⟩ := (R.nod a _ hx).lst
      split at g
      · rename_i j hj
        obtain ⟨e', R'⟩ := R.put (vs := us.set j vv) hx (p2.set j h3)
        rw [rv_int h2]
        exact .inl ⟨_, us, kk, j, rfl, rfl, p1, by rw [← p2.length]; exact hj, g (r.put a (us.set j vv) (xs.set j v)) σ rfl e' R' (S.ext R e')⟩
      · exact False.elim g
    · exact False.elim g
  · rename_i a kk
    simp only [RV] at h1
    obtain ⟨hi, rfl⟩ := h1
    split at g
    · rename_i ks vs hx
      by_cases hz : ks.length < lim
      · rw [if_pos hz] at g
        obtain ⟨o, p1, kvs, rfl, rfl, ho, p2⟩ := R.nod a _ hx
        obtain ⟨q, rfl, e5, hk⟩ := key_inv rfl h2
        obtain ⟨f1, f2, f3⟩ := put_val h3 hk ho p2
        rw [← e5] at g
        have ro : RO r (.dK (putK kvs q vv)) (.dic false (putKD (keyD q) v (kvs.map fun p => keyD p.1) vs).1 (putKD (keyD q) v (kvs.map fun p => keyD p.1) vs).2) := ⟨_, rfl, f1, f2, f3⟩
        obtain ⟨e', R'⟩ := R.putN hx ro
        refine .inr ⟨_, _, rfl, .inl ⟨kvs, q, p1, rfl, ?_, rfl⟩, g (r.putN a _ _) σ rfl e' R' (S.ext R e')⟩
        rw [List.length_map] at hz
        exact lt_line hz
      · rw [if_neg hz] at g
        exact False.elim g
    · exact False.elim g
  · rename_i a kk
    simp only [RV] at h1
    obtain ⟨hi, rfl⟩ := h1
    split at g
    · rename_i ks vs hx
      by_cases hz : ks.length < lim
      · rw [if_pos hz] at g
        obtain ⟨o, p1, kvs, rfl, e0, ho, p2⟩ := R.nod a _ hx
        have e0 : ks = kvs.map (fun p => keyT p.1) := e0
        subst e0
        obtain ⟨b, q, rfl, e4, e5, hk⟩ := kup_inv h2
        obtain ⟨f1, f2, f3⟩ := put_valG (ko := fun k => ∀ x ∈ k, keyO x) keyT_inj h3 hk ho p2
        rw [e5] at g
        have ro : RO r (.dT (putK kvs q vv)) (.dic true (putKD (keyT q) v (kvs.map fun p => keyT p.1) vs).1 (putKD (keyT q) v (kvs.map fun p => keyT p.1) vs).2) := ⟨_, rfl, f1, f2, f3⟩
        obtain ⟨e', R'⟩ := R.putN hx ro
        rw [List.length_map] at hz
        refine .inr ⟨_, _, rfl, DPut.t p1 e4 (lt_line hz), g (r.putN a _ _) σ rfl e' R' (S.ext R e')⟩
      · rw [if_neg hz] at g
        exact False.elim g
    · exact False.elim g
  · exact False.elim g
theorem ss_sto (g0 : XG cf G C ec k B N sc X) {o i : Expr} {mi : E} (hns : ∀ lo hi st p, i ≠ .Slice lo hi st p) (hs : ∀ l, swapsWithSole [.Subscript o i p] a l X.env = pure false) (hs2 : swappedStores [.Subscript o i p] a X.env = pure none) (ha : SndE G C ec B X a ma) (ho : SndE G C ec B X o mo) (hi : SndE G C ec B X i mi) : SndS G C ec B X (.Assign [.Subscript o i p] a pos) (.sto mo mi ma) := by
  intro W tk σ r sl D0 eB R S g
  simp only [evS] at g
  have hsub : ∀ v, assign (.Subscript o i p) X.env v = (do
      let ov ← holding [v] (eval o X.env)
      let iv ← holding [v, ov] (eval i X.env)
      standAt p
      holding [v, ov, iv] (setItem ov iv v)
      release [v, ov, iv] []) := fun v => by
    cases i with
    | Slice lo hh st pp => exact absurd rfl (hns lo hh st pp)
    | _ => rfl
  refine SM.of (ps_asg pe_tm (pg_sub pe_tm pe_tm (set_all (by have := g0.room; omega)) hsub) (hs _) hs2 rfl) (ha tk eB R S (g.step R S fun y h1 r1 v1 _ n1 e1 R1 q1 S1 g1 => ?_))
  subst n1
  refine ho tk (e1.B.trans eB) R1 S1 (g1.step R1 S1 fun y2 h2 r2 v2 _ n2 e2 R2 q2 S2 g2 => ?_)
  subst n2
  refine hi tk (e2.B.trans (e1.B.trans eB)) R2 S2 (g2.step R2 S2 fun y3 h3 r3 v3 _ n3 e3 R3 q3 S3 g3 => ?_)
  subst n3
  exact sto_run R3 S3 (RV.ext R2 e3 q2) q3 (RV.ext R2 e3 (RV.ext R1 e2 q1)) g3
end
end L2.MP
namespace L2.MP
open PySem PySem.Spec PyProof.Rows
section
variable {cf : Cf} {G : Gl} {C : Nat → List D → Hs → MP.R D} {ec : EC} {k n : Nat} {B : RB} {N : List Str} {sc scope : Scope} {X : Cx} {e a b c tg iter elt : Expr} {es ifs : List Expr} {m ma mb mc mo me : E} {ms : List E} {pos p2 p : Pos} {r r' : RC} {D0 : Ends} {W : WX} {σ : St} {sl : Sl}
theorem ss_for {t : T} {mi : I} {body : List Stmt} {mbody : List S} (g0 : XG cf G C ec k B N sc X) (hpo : PassesOwn (model X.prog X.w) X.A X.env X.xe) (hc : X.calm = true) (hfold : ∀ x, foldedSetIterable iter X.env x = pure x)
    (hi : SndI G C ec B X tg iter mi) (hg : SndG X tg t) (hb : SndSs G C ec B X body mbody) : SndS G C ec B X (.For tg iter body [] pos) (.for_ t mi mbody) := by
  intro W tk σ r sl D0 eB R S g
  simp only [evS] at g
  refine SM.of (ps_for hpo hc pi_im pg_gm pss_sms hfold) (hi tk eB R S (g.step R S fun xs h1 r1 J _ n1 e1 R1 jt S1 g1 => ?_))
  subst n1
  have eB1 : r1.B = B := e1.B.trans eB
  refine ⟨fun i m σ H => ∃ (r2 : RC) (sl2 : Sl), r2.H = H ∧ Ext r1 r2 ∧ Rep r2 ∧ RS r2 sl2 σ ∧ GQ ec r2 D0 W (forL xs.2 (fun x sl h => (MP.R.of (asgT h t x sl) h).q sl fun sl h => evSs G C mbody sl h) (xs.1.drop i) sl2 r2.ns) ∧ i ≤ xs.1.length ∧ m = xs.1.length - i,
    ⟨xs.1.length, r1, sl, rfl, Ext.refl r1, R1, S1, g1, Nat.zero_le _, rfl⟩, fun i m σ2 H ⟨r2, sl2, eH, e2, R2, S2, g2, hil, em⟩ => ?_⟩
  subst eH
  by_cases hi2 : i < xs.1.length
  · have hd : xs.1.drop i = xs.1[i] :: xs.1.drop (i + 1) := List.drop_eq_getElem_cons hi2
    have hx : xs.1[i]? = some xs.1[i] := List.getElem?_eq_getElem hi2
    rw [hd] at g2
    unfold forL at g2
    split at g2
    · rename_i hck
      obtain ⟨jg, jy⟩ := (jt r2 e2.toExt0 R2 hck i).1 _ hx
      refine .inr ⟨jg, fun σ' H' => ∃ (r3 : RC) (sl3 : Sl), r3.H = H' ∧ Ext r1 r3 ∧ Rep r3 ∧ RS r3 sl3 σ' ∧ GQ ec r3 D0 W (forL xs.2 (fun x sl h => (MP.R.of (asgT h t x sl) h).q sl fun sl h => evSs G C mbody sl h) (xs.1.drop (i + 1)) sl3 r3.ns), fun σ' H' ⟨r3, sl3, q1, q2, q3, q4, q5⟩ => ⟨m - 1, by omega, r3, sl3, q1, q2, q3, q4, q5, hi2, by omega⟩, fun v H' hy => ?_⟩
      obtain ⟨r3, eH, e3, R3, n3, rv⟩ := jy v H' hy
      subst eH
      have S3 := S2.ext R2 e3
      rw [← n3] at g2
      cases ha : asgT r3.ns t xs.1[i] sl2 with
      | none => rw [ha] at g2; exact False.elim g2
      | some sl4 =>
        rw [ha] at g2
        refine hg (by rw [e3.B, e2.B, eB1, g0.eK]) R3 rv S3 ha fun σ4 S4 _ => hb tk (e3.B.trans (e2.B.trans eB1)) R3 S4 ?_
        have g3 := GQ.ext e3 g2
        have g3 : GQ ec r3 D0 W (match evSs G C mbody sl4 r3.ns with
          | .ok .nx sl h => forL xs.2 (fun x sl h => (MP.R.of (asgT h t x sl) h).q sl fun sl h => evSs G C mbody sl h) (xs.1.drop (i + 1)) sl h
          | .ok .ct sl h => forL xs.2 (fun x sl h => (MP.R.of (asgT h t x sl) h).q sl fun sl h => evSs G C mbody sl h) (xs.1.drop (i + 1)) sl h
          | .ok .bk sl h => .ok .nx sl h
          | q => q) := g3
        cases ev : evSs G C mbody sl4 r3.ns with
        | bad => rw [ev] at g3; exact g3
        | exc c fs sl5 h5 => rw [ev] at g3; exact g3
        | ok f sl5 h5 =>
          rw [ev] at g3
          cases f with
          | rt d => exact g3
          | bk => exact g3
          | nx =>
            intro r5 σ5 n5 e5 R5 S5
            subst n5
            exact ⟨r5, sl5, rfl, (e2.trans e3).trans e5, R5, S5, GQ.ext e5 g3⟩
          | ct =>
            intro r5 σ5 n5 e5 R5 S5
            subst n5
            exact ⟨r5, sl5, rfl, (e2.trans e3).trans e5, R5, S5, GQ.ext e5 g3⟩
    · exact False.elim g2
  · have hd : xs.1.drop i = [] := List.drop_eq_nil_of_le (by omega)
    rw [hd] at g2
    unfold forL at g2
    split at g2
    · rename_i hck
      exact .inl ⟨(jt r2 e2.toExt0 R2 hck i).2 (by omega), g2 r2 σ2 rfl (Ext.refl r2) R2 S2⟩
    · exact False.elim g2
theorem ss_rais (g0 : XG cf G C ec k B N sc X) {x : Str} {c : Nat} {es : List Expr} {ms : List E} (hg : glo? sc x = true) (hx : ixOf cf.exs x = some c) (hc : cf.calm = true) (har : cf.ars[c]? = some (some es.length)) (hlen : ms.length = es.length) (ha : SndA G C ec B X es ms) (hst : ∀ q ∈ starEach es X.env, q.1 = false)
    (hs1 : ∀ e1 es1, es = e1 :: es1 → starEach (e1 :: es1) X.env = (false, eval e1 X.env) :: starEach es1 X.env) : SndS G C ec B X (.Raise (some (.Call (.Name x p) es [] p2)) none pos) (.rais c ms) := by
  intro W tk σ r sl D0 eB R S g
  obtain ⟨hcm, hr, hxa⟩ := g0.calm hc
  obtain ⟨hm0, hm1⟩ := g0.wf.mkx X rfl rfl rfl rfl rfl hcm hr c x es.length p p2 (ixOf_get hx) har (glo_gl g0 hg)
  have hfl := g0.wf.flc c x (ixOf_get hx)
  cases es with
  | nil =>
    obtain rfl : ms = [] := List.length_eq_zero_iff.mp hlen
    simp only [evS, evEs] at g
    refine SM.of (ps_raise hcm tk (hm0 rfl)) ?_
    have g1 : GQ ec r D0 W (if G.flc[c]? = some ([] : List D).length then .exc c [] sl r.ns else .bad) := g
    split at g1
    · rename_i hz
      rw [hfl] at hz
      have hfe : B.fl c = [] := List.length_eq_zero_iff.mp (Option.some.inj hz)
      refine ⟨by rw [hfe]; rfl, .inl ⟨hfe, ?_⟩⟩
      exact g1 r σ none rfl (Ext.refl r) R S (.inl ⟨rfl, rfl⟩)
    · exact False.elim g1
  | cons e1 es1 =>
    have hb : (backTo p2 (starEach es1 X.env)).any (·.1) = false := back_any fun q hq => hst q (by rw [hs1 e1 es1 rfl]; exact List.mem_cons_of_mem _ hq)
    refine SM.of (ps_raise hcm tk (hm1 (by simp) e1 es1 _ pa_am (hs1 e1 es1 rfl) hb)) ?_
    simp only [evS] at g
    refine ha tk eB R S (g.step R S fun vs h1 r1 us _ n1 e1' R1 q1 S1 g1 => ?_)
    subst n1
    have g2 : GQ ec r1 D0 W (if G.flc[c]? = some vs.length then .exc c vs sl r1.ns else .bad) := g1
    split at g2
    · rename_i hz
      rw [hfl] at hz
      have hz2 : (B.fl c).length = vs.length := Option.some.inj hz
      have eBf : r1.B.fl c = B.fl c := by rw [e1'.B, eB]
      have hlu : us.length = (B.fl c).length := by rw [← q1.length, hz2]
      refine ⟨hlu, ?_⟩
      by_cases hfe : B.fl c = []
      · have hv : vs = [] := List.length_eq_zero_iff.mp (by rw [← hz2, hfe]; rfl)
        exact .inl ⟨hfe, g2 r1 σ none rfl (Ext.refl r1) R1 S1 (.inl ⟨rfl, hv⟩)⟩
      · refine .inr ⟨hfe, fun d hd => ?_⟩
        obtain ⟨e2, R2⟩ := R1.alloc (o := .xd ((B.fl c).zip us).reverse) hd
        have hv : vs ≠ [] := fun z => hfe (List.length_eq_zero_iff.mp (by rw [hz2, z]; rfl))
        exact g2 { r1 with H := upd r1.H d (.xd ((B.fl c).zip us).reverse) } σ (some d) rfl e2 R2 (S1.ext R1 e2) (.inr ⟨d, us, rfl, hv, by
          show upd r1.H d _ d = _
          rw [upd_same]
          show some (HO.xd ((B.fl c).zip us).reverse) = some (.xd ((r1.B.fl c).zip us).reverse)
          rw [eBf], by
          show us.length = (r1.B.fl c).length
          rw [eBf]; exact hlu, RVs.ext R1 e2 q1⟩)
    · exact False.elim g2
mutual
theorem RV.noX {r : RC} (hx : r.B.xa = none) : ∀ {d : D} {v : V}, RV r d v → noX d = true
  | .non, _, _ => by simp only [MP.noX]
  | .bl _, _, _ => by simp only [MP.noX]
  | .int _, _, _ => by simp only [MP.noX]
  | .str _, _, _ => by simp only [MP.noX]
  | .ref i, _, _ => by simp only [MP.noX]
  | .tup xs, _, h => by
    simp only [RV] at h
    obtain ⟨a, vs, rfl, _, h2⟩ := h
    simp only [MP.noX]; exact RVs.noX hx h2
  | .lst xs, _, h => by
    simp only [RV] at h
    obtain ⟨a, vs, rfl, _, _, h2⟩ := h
    simp only [MP.noX]; exact RVs.noX hx h2
  | .exn c fs, _, h => by
    simp only [RV] at h
    obtain ⟨a, d, rfl, h1, _⟩ := h
    rw [hx] at h1; cases h1
  | .dic _ _, _, _ => by simp only [MP.noX]
  | .scr _, _, _ => by simp only [MP.noX]
  | .kup _, _, _ => by simp only [MP.noX]
theorem RVs.noX {r : RC} (hx : r.B.xa = none) : ∀ {xs : List D} {vs : List V}, RVs r xs vs → noXs xs = true
  | [], _, _ => by simp only [MP.noXs]
  | x :: xs, _, h => by
    obtain ⟨v, ws, rfl, h1, h2⟩ := RVs.inv h
    simp only [MP.noXs, Bool.and_eq_true]
    exact ⟨RV.noX hx h1, RVs.noX hx h2⟩
end
def RC.xaS (r : RC) (q : Option (Addr × Nat × Option Addr)) : RC := { r with B := { r.B with xa := q } }
mutual
theorem RV.xaS {r : RC} (q : Option (Addr × Nat × Option Addr)) : ∀ {d : D} {v : V}, noX d = true → RV r d v → RV (r.xaS q) d v
  | .non, _, _, h => by simpa only [RV] using h
  | .bl _, _, _, h => by simpa only [RV] using h
  | .int _, _, _, h => by simpa only [RV] using h
  | .str _, _, _, h => by simpa only [RV] using h
  | .ref i, _, _, h => by
    simp only [RV] at h ⊢
    exact h
  | .tup xs, _, k, h => by
    simp only [MP.noX] at k
    simp only [RV] at h ⊢
    obtain ⟨a, vs, rfl, h1, h2⟩ := h
    exact ⟨a, vs, rfl, h1, RVs.xaS q k h2⟩
  | .lst xs, _, k, h => by
    simp only [MP.noX] at k
    simp only [RV] at h ⊢
    obtain ⟨a, vs, rfl, h1, w, h2⟩ := h
    exact ⟨a, vs, rfl, h1, w, RVs.xaS q k h2⟩
  | .exn c fs, _, k, h => by simp [MP.noX] at k
  | .dic _ _, _, _, h => by
    simp only [RV] at h ⊢
    exact h
  | .scr _, _, _, h => by
    simp only [RV] at h ⊢
    exact h
  | .kup _, _, _, h => by
    simp only [RV] at h ⊢
    exact h
theorem RVs.xaS {r : RC} (q : Option (Addr × Nat × Option Addr)) : ∀ {xs : List D} {vs : List V}, noXs xs = true → RVs r xs vs → RVs (r.xaS q) xs vs
  | [], _, _, h => by rw [RVs.invN h]; exact RVs.nil
  | x :: xs, _, k, h => by
    simp only [MP.noXs, Bool.and_eq_true] at k
    obtain ⟨v, ws, rfl, h1, h2⟩ := RVs.inv h
    exact RVs.cons (RV.xaS q k.1 h1) (RVs.xaS q k.2 h2)
end
def noXn : Nd → Bool
  | .lst xs => noXs xs
  | .dic _ _ vs => noXs vs
  | .ins _ fs => noXs (fs.map (·.2))
theorem RO.noX {r : RC} (hx : r.B.xa = none) {o : HO} : ∀ {nd : Nd}, RO r o nd → noXn nd = true
  | .lst _, ⟨vs, e, h⟩ => RVs.noX hx h
  | .dic t _ _, h => by
    cases t
    · obtain ⟨kvs, h1, h2, h3, h⟩ := h; exact RVs.noX hx h
    · obtain ⟨kvs, h1, h2, h3, h⟩ := h; exact RVs.noX hx h
  | .ins _ _, ⟨dx, gs, h1, h2, h⟩ => RVs.noX hx h
theorem RO.xaS {r : RC} (q : Option (Addr × Nat × Option Addr)) {o : HO} : ∀ {nd : Nd}, noXn nd = true → RO r o nd → RO (r.xaS q) o nd
  | .lst _, k, ⟨vs, e, h⟩ => ⟨vs, e, RVs.xaS q k h⟩
  | .dic t _ _, k, h => by
    cases t
    · obtain ⟨kvs, h1, h2, h3, h⟩ := h; exact ⟨kvs, h1, h2, h3, RVs.xaS q k h⟩
    · obtain ⟨kvs, h1, h2, h3, h⟩ := h; exact ⟨kvs, h1, h2, h3, RVs.xaS q k h⟩
  | .ins _ _, k, ⟨dx, gs, h1, h2, h⟩ => ⟨dx, gs, h1, h2, RVs.xaS q k h⟩
theorem Rep.xaS {r : RC} (R : Rep r) (q : Option (Addr × Nat × Option Addr)) (hn : ∀ (i : Nat) (nd : Nd), r.ns[i]? = some nd → noXn nd = true) : Rep (r.xaS q) :=
  ⟨R.inj, fun i nd h => let ⟨o, h1, h2⟩ := R.nod i nd h; ⟨o, h1, RO.xaS q (hn i nd h) h2⟩, R.sep, R.pvs⟩
theorem okSl_get : ∀ {as bs : Sl} {i : Nat} {a : D}, okSl as bs = true → as[i]? = some (some a) → bs[i]? = some (some a) ∨ noX a = true
  | [], _, i, a, _, h => by simp at h
  | none :: as, [], i, a, h, _ => by simp [okSl] at h
  | some _ :: as, [], i, a, h, _ => by simp [okSl] at h
  | none :: as, b :: bs, 0, a, _, h => by simp at h
  | none :: as, b :: bs, i + 1, a, k, h => by
    simp only [okSl] at k
    simpa using okSl_get k (by simpa using h)
  | some x :: as, b :: bs, 0, a, k, h => by
    simp only [okSl, Bool.and_eq_true, Bool.or_eq_true, decide_eq_true_eq] at k
    simp at h
    subst h
    rcases k.1 with h | h
    · exact .inl (by simp [h])
    · exact .inr h
  | some x :: as, b :: bs, i + 1, a, k, h => by
    simp only [okSl, Bool.and_eq_true] at k
    simpa using okSl_get k.2 (by simpa using h)
/-- a place of a def's body: its frame -/
structure XS (X : Cx) : Prop where
  st : X.stack = X.env :: X.outer
  fr : X.env.frame = some X.env.locals
  po : PassesOwn (model X.prog X.w) X.A X.env X.xe
theorem ss_try {x y : Str} {c i : Nat} {body suite : List Stmt} {s0 : Stmt} {mbody msuite : List S} {np pos' : Pos} (g0 : XG cf G C ec k B N sc X) (xs : XS X) (hc : cf.calm = true) (hg : glo? sc x = true) (hx : ixOf cf.exs x = some c) (hi : N[i]? = some y) (hl : sc.names.lookup y = some .local)
    (hb : ∀ pn xe, PassesOwn (model X.prog X.w) X.A X.env xe → XG cf G C ec k B N sc (X.tr pn xe) → SndSs G C ec B (X.tr pn xe) body mbody)
    (hs : ∀ a d c' oe pn vs, Zc (ec c') d oe → oe.data = .fields vs → (∃ x, cf.exs[c']? = some x) → XG { cf with calm := false } G C ec k { B with xa := some (a, c', d) } N sc (X.suite a ((a, oe) :: pn)) → SndSs G C ec { B with xa := some (a, c', d) } (X.suite a ((a, oe) :: pn)) (s0 :: suite) msuite) :
    SndS G C ec B X (.Try body [.ExceptHandler (some (.Name x np)) (some y) (s0 :: suite) pos'] [] [] pos) (.try_ mbody [.mk [c] (some i) msuite]) := by
  intro W tk σ r sl D0 eB R S g
  obtain ⟨hcm, hr, hxa⟩ := g0.calm hc
  obtain ⟨hd, Ca, hm, eC⟩ := g0.wf.exc c x (ixOf_get hx)
  have hnm : Names X x (ec c) := ⟨glo_gl g0 hg, hd, .inl (by rw [hm, eC])⟩
  have hkl : X.env.kindOf y = some .local := by show X.env.scope.names.lookup y = _; rw [g0.eS]; exact hl
  refine SM.of (ps_try_as (i := i) (tb := fun W D σ H => ∀ pn xe, Takes (X.tr pn xe) W → PassesOwn (model X.prog X.w) X.A X.env xe → SMs (X.tr pn xe) body D σ H)
    (ts := fun a cls d D σ H => ∀ oe pn, Zc cls d oe → (∃ vs, oe.data = .fields vs) → SMs (X.suite a ((a, oe) :: pn)) (s0 :: suite) D σ H)
    xs.st xs.fr (by rw [g0.eN]; exact g0.nd) (by rw [g0.eN]; exact hi) hkl hnm tk (fun W pn xe tk po => ⟨fun pins s σ H D I h => h pn xe tk po pins s I⟩) (fun a oe cls d pn hz hv => ⟨fun pins s σ H D I h => h oe pn hz hv pins s I⟩)) ?_
  intro pn xe tk2 po
  have gtr : XG cf G C ec k B N sc (X.tr pn xe) := ⟨g0.eK, g0.nd, g0.room, g0.gd, g0.eN, g0.eS, g0.nn, (fun a c d h => by rw [hxa] at h; cases h), g0.calm, g0.wf⟩
  refine hb pn xe po gtr tk2 eB R S ?_
  have g1 : GQ ec r D0 W (match evSs G C mbody sl r.ns with
    | .exc c' fs sl h => if c' < G.exb.length then evH G C [.mk [c] (some i) msuite] c' fs sl h else .bad
    | q => q) := by
    simp only [evS] at g
    exact g
  cases ev : evSs G C mbody sl r.ns with
  | bad => rw [ev] at g1; exact g1
  | ok f sl1 h1 => rw [ev] at g1; cases f <;> exact g1
  | exc c' fs sl1 h1 =>
    rw [ev] at g1
    have hlt : c' < G.exb.length := by
      by_cases hlt : c' < G.exb.length
      · exact hlt
      · simp only [if_neg hlt] at g1
        exact False.elim g1
    simp only [if_pos hlt] at g1
    obtain ⟨x', hx'⟩ := g0.wf.exl c' hlt
    intro r1 σ1 d n1 e1 R1 S1 q1
    subst n1
    replace g1 := GQ.ext e1 g1
    have eB1 : r1.B = B := e1.B.trans eB
    refine ⟨decide (c' = c), g0.wf.exm c' c x' x hx' (ixOf_get hx), fun hb a ha oe pn2 hz hv => ?_, fun hb => ?_⟩
    · have ecc : c' = c := of_decide_eq_true hb
      obtain ⟨vs, hv⟩ := hv
      have gsu : XG { cf with calm := false } G C ec k { B with xa := some (a, c', d) } N sc (X.suite a ((a, oe) :: pn2)) := ⟨g0.eK, g0.nd, g0.room, g0.gd, g0.eN, g0.eS, g0.nn, fun a2 c2 d2 h => by
        cases h
        exact ⟨oe, vs, List.mem_cons_self, hv, hz, x', hx'⟩, (fun h => by cases h), ⟨g0.wf.fn, g0.wf.gl, g0.wf.bi, g0.wf.exc, g0.wf.mkx, g0.wf.ars, g0.wf.fls, g0.wf.fno, g0.wf.exl, g0.wf.flc, g0.wf.exk, g0.wf.sys, g0.wf.exm, g0.wf.gd⟩⟩
      have hxr : r1.B.xa = none := by rw [eB1]; exact hxa
      have hnn : ∀ (j : Nat) (nd : Nd), r1.ns[j]? = some nd → noXn nd = true := fun j nd h => by
        obtain ⟨us, _, h2⟩ := R1.nod j _ h
        exact RO.noX hxr h2
      have Rx : Rep (r1.xaS (some (a, c', d))) := R1.xaS _ hnn
      have hfs : noXs fs = true := by
        rcases q1 with ⟨_, rfl⟩ | ⟨_, _, _, _, _, _, h3⟩
        · rfl
        · exact RVs.noX hxr h3
      have Sx : RS (r1.xaS (some (a, c', d))) sl1 σ1 := ⟨S1.1, fun j z h => let ⟨v, h1, h2⟩ := S1.2 j z h; ⟨v, h1, RV.xaS _ (RV.noX hxr h2) h2⟩⟩
      have rva : RV (r1.xaS (some (a, c', d))) (.exn c' fs) (.ref a) := by
        simp only [RV]
        refine ⟨a, d, rfl, rfl, ?_⟩
        rcases q1 with q1 | ⟨dx, us, rfl, hne, h1, h2, h3⟩
        · exact .inl q1
        · exact .inr ⟨dx, us, rfl, hne, h1, h2, RVs.xaS _ hfs h3⟩
      have hs1 := hs a d c' oe pn2 vs hz hv ⟨x', hx'⟩ gsu
      have eBx : (r1.xaS (some (a, c', d))).B = { B with xa := some (a, c', d) } := by
        show ({ r1.B with xa := _ } : RB) = _
        rw [eB1]
      show SMs _ _ _ _ (r1.xaS (some (a, c', d))).H
      refine hs1 takes0 eBx Rx (Sx.set (i := i) rva) ?_
      have g2 : GQ ec r1 D0 W (match evSs G C msuite (sl1.set i (some (.exn c' fs))) r1.ns with
        | .ok f sl2 h2 => if h2 = r1.ns ∧ okSl (sl2.set i none) sl1 = true ∧ okF f = true then .ok f (sl2.set i none) r1.ns else .bad
        | _ => .bad) := by
        simp only [evH, evH1, ecc, List.contains_cons, List.contains_nil, Bool.or_false, beq_self_eq_true, if_true] at g1
        rw [ecc]
        exact g1
      have back : ∀ {r3 : RC} {sl3 : Sl} {σ3 : St}, r3.ns = r1.ns → Ext (r1.xaS (some (a, c', d))) r3 → Rep r3 → RS r3 sl3 σ3 → okSl (sl3.set i none) sl1 = true →
          (r3.xaS none).ns = r1.ns ∧ Ext r1 (r3.xaS none) ∧ Rep (r3.xaS none) ∧ RS (r3.xaS none) (sl3.set i none) (σ3.set i none) := fun {r3 sl3 σ3} n3 e3 R3 S3 ok3 => by
        refine ⟨n3, ⟨⟨?_, e3.keep, e3.own, e3.loc, e3.len⟩, e3.pv, e3.prv⟩, R3.xaS none fun j zs h => hnn j zs (by rw [← n3]; exact h), ?_⟩
        · show ({ r3.B with xa := none } : RB) = r1.B
          rw [e3.B]
          show ({ ({ r1.B with xa := _ } : RB) with xa := none } : RB) = r1.B
          obtain ⟨⟨K1, f1, x1⟩, _⟩ := r1
          cases hxr
          rfl
        · have S4 := S3.unset i
          refine ⟨S4.1, fun j z h => ?_⟩
          obtain ⟨v, h1, h2⟩ := S4.2 j z h
          refine ⟨v, h1, RV.xaS none ?_ h2⟩
          rcases okSl_get ok3 h with h | h
          · obtain ⟨v2, _, h3⟩ := S1.2 j z h
            exact RV.noX hxr h3
          · exact h
      cases ev2 : evSs G C msuite (sl1.set i (some (.exn c' fs))) (r1.xaS (some (a, c', d))).ns with
      | bad => rw [show evSs G C msuite (sl1.set i (some (.exn c' fs))) r1.ns = _ from ev2] at g2; exact False.elim g2
      | exc c2 fs2 sl2 h2 => rw [show evSs G C msuite (sl1.set i (some (.exn c' fs))) r1.ns = _ from ev2] at g2; exact False.elim g2
      | ok f sl2 h2 =>
        rw [show evSs G C msuite (sl1.set i (some (.exn c' fs))) r1.ns = _ from ev2] at g2
        by_cases hk : h2 = r1.ns ∧ okSl (sl2.set i none) sl1 = true ∧ okF f = true
        · simp only [if_pos hk] at g2
          obtain ⟨rfl, k2, k3⟩ := hk
          cases f with
          | nx =>
            intro r3 σ3 n3 e3 R3 S3
            obtain ⟨b1, b2, b3, b4⟩ := back n3 e3 R3 S3 k2
            exact g2 (r3.xaS none) _ b1 b2 b3 b4
          | bk =>
            intro r3 σ3 n3 e3 R3 S3
            obtain ⟨b1, b2, b3, b4⟩ := back n3 e3 R3 S3 k2
            exact g2 (r3.xaS none) _ b1 b2 b3 b4
          | ct =>
            intro r3 σ3 n3 e3 R3 S3
            obtain ⟨b1, b2, b3, b4⟩ := back n3 e3 R3 S3 k2
            exact g2 (r3.xaS none) _ b1 b2 b3 b4
          | rt z =>
            intro r3 v3 n3 e3 R3 rv
            have e3' : Ext r1 (r3.xaS none) := ⟨⟨by
              show ({ r3.B with xa := none } : RB) = r1.B
              rw [e3.B]
              show ({ ({ r1.B with xa := _ } : RB) with xa := none } : RB) = r1.B
              obtain ⟨⟨K1, f1, x1⟩, _⟩ := r1
              cases hxr
              rfl, e3.keep, e3.own, e3.loc, e3.len⟩, e3.pv, e3.prv⟩
            exact g2 (r3.xaS none) v3 n3 e3' (R3.xaS none fun j zs h => hnn j zs (by rw [← n3]; exact h)) (RV.xaS none k3 rv)
        · simp only [if_neg hk] at g2
          exact False.elim g2
    · have ecc : c' ≠ c := of_decide_eq_false hb
      have g2 : GQ ec r1 D0 W (.exc c' fs sl1 r1.ns) := by
        have hcc : ([c] : List Nat).contains c' = false := by simp [ecc]
        simpa only [evH, evH1, hcc, Bool.false_eq_true, if_false] using g1
      exact g2 r1 σ1 d rfl (Ext.refl r1) R1 S1 q1
end
end L2.MP
namespace L2.MP
open PySem PySem.Spec PyProof.Rows
theorem locK_eq {sc : Scope} {x : Str} (h : locK sc x = true) : sc.names.lookup x = some .local := by
  unfold locK at h
  split at h
  · assumption
  · cases h
theorem fnSc_eq {sc : Scope} (h : fnSc sc = true) : sc.kind = .function := by
  unfold fnSc at h
  split at h
  · assumption
  · cases h
theorem star_fn : (fun x : Expr => match x with | .Starred .. => true | _ => false) = isStar := funext fun x => by cases x <;> rfl
theorem not_star {vs : List Expr} (h : vs.any isStar = false) : (vs.any fun | .Starred .. => true | _ => false) = false := (congrArg (fun f => vs.any f) star_fn).trans h
theorem fm_lt {f : Expr → Option Str} (hf : ∀ t, notNm t = true → f t = none) : ∀ {ts : List Expr}, ts.any notNm = true → (ts.filterMap f).length < ts.length
  | [], h => nomatch h
  | t :: ts, h => by
    rw [List.any_cons] at h
    rcases Bool.or_eq_true_iff.mp h with h | h
    · rw [List.filterMap_cons_none (hf t h)]
      exact Nat.lt_succ_of_le (List.length_filterMap_le f ts)
    · have q := fm_lt hf h
      cases e : f t with
      | none =>
        rw [List.filterMap_cons_none e]
        exact Nat.lt_succ_of_lt q
      | some x =>
        rw [List.filterMap_cons_some e]
        exact Nat.succ_lt_succ q
theorem swp_no {t e : Expr} (h : parNo t e = true) (env : Env) : swappedStores [t] e env = pure none := by
  unfold parNo at h
  split at h
  · rename_i ts k1 p1 vs k2 p2
    unfold swappedStores
    dsimp only
    split
    · rfl
    · split
      · rfl
      · split
        · rfl
        · split
          · rfl
          · rename_i z1 z2 z3 z4
            rcases Bool.or_eq_true_iff.mp h with h | h
            · exact absurd h z4
            · refine absurd ?_ z3
              refine Bool.or_eq_true_iff.mpr (.inl (bne_iff_ne.mpr (Nat.ne_of_lt (fm_lt ?_ h))))
              intro t ht
              cases t <;> first | rfl | (cases ht; done)
  · cases h
theorem swp2 {sc : Scope} {env : Env} (hs : env.scope = sc) (hk : sc.kind = .function) {x y : Str} {px py p p2 : Pos} {k k2 : Nat} {a b : Expr} (hne : x ≠ y) (hx : sc.names.lookup x = some .local) (hy : sc.names.lookup y = some .local) (hl : py.line = px.line)
    (f1 : [a, b].all (foldedForSure 8) = false) (f2 : [a, b].all (constantsAlone 8) = false) (st : ([a, b].any fun | .Starred .. => true | _ => false) = false) :
    swappedStores [.Tuple [.Name x px, .Name y py] k p] (.Tuple [a, b] k2 p2) env = pure (some [x, y]) := by
  have hbk : env.blockKind = .function := by
    unfold Env.blockKind
    rw [hs, hk]
    rfl
  have kx : env.kindOf x = some .local := by unfold Env.kindOf; rw [hs]; exact hx
  have ky : env.kindOf y = some .local := by unfold Env.kindOf; rw [hs]; exact hy
  have nm : ([Expr.Name x px, Expr.Name y py].filterMap fun
    | .Name id pos => if env.kindOf id == some .local && pos.line == px.line then some id else none
    | _ => none) = [x, y] := by
    simp [kx, ky, hl]
  have dd : ([x, y] : List Str).eraseDups.length = 2 := by
    have : (y == x) = false := by simpa using fun z : y = x => hne z.symm
    simp [List.eraseDups_cons, this]
  unfold swappedStores
  simp only [hbk]
  refine (if_neg (fun z => Bool.false_ne_true z)).trans ((if_neg (fun z => absurd (st.symm.trans z) (by decide))).trans ((if_neg (fun z => ?_)).trans ((if_neg (fun z => absurd (f1.symm.trans z) (by decide))).trans ((if_neg (fun z => absurd (f2.symm.trans z) (by decide))).trans ?_))))
  · have z2 : (([x, y] : List Str).length != 2 || ([x, y] : List Str).eraseDups.length != ([x, y] : List Str).length) = true := by
      rw [← nm]; exact z
    rw [dd] at z2
    exact Bool.false_ne_true z2
  · exact congrArg (fun l => (pure (some l) : Sem (Option (List Str)))) nm
theorem swp3 {sc : Scope} {env : Env} (hs : env.scope = sc) (hk : sc.kind = .function) {x y u : Str} {px py pu p p2 : Pos} {k k2 : Nat} {a b c : Expr} (h1 : x ≠ y) (h2 : x ≠ u) (h3 : y ≠ u) (hx : sc.names.lookup x = some .local) (hy : sc.names.lookup y = some .local) (hu : sc.names.lookup u = some .local) (hl : py.line = px.line) (hl2 : pu.line = px.line)
    (f1 : [a, b, c].all (foldedForSure 8) = false) (f2 : [a, b, c].all (constantsAlone 8) = false) (st : ([a, b, c].any fun | .Starred .. => true | _ => false) = false) :
    swappedStores [.Tuple [.Name x px, .Name y py, .Name u pu] k p] (.Tuple [a, b, c] k2 p2) env = pure (some [x, y, u]) := by
  have hbk : env.blockKind = .function := by
    unfold Env.blockKind
    rw [hs, hk]
    rfl
  have kx : env.kindOf x = some .local := by unfold Env.kindOf; rw [hs]; exact hx
  have ky : env.kindOf y = some .local := by unfold Env.kindOf; rw [hs]; exact hy
  have ku : env.kindOf u = some .local := by unfold Env.kindOf; rw [hs]; exact hu
  have nm : ([Expr.Name x px, Expr.Name y py, Expr.Name u pu].filterMap fun
    | .Name id pos => if env.kindOf id == some .local && pos.line == px.line then some id else none
    | _ => none) = [x, y, u] := by
    simp [kx, ky, ku, hl, hl2]
  have dd : ([x, y, u] : List Str).eraseDups.length = 3 := by
    have q1 : (y == x) = false := by simpa using fun z : y = x => h1 z.symm
    have q2 : (u == x) = false := by simpa using fun z : u = x => h2 z.symm
    have q3 : (u == y) = false := by simpa using fun z : u = y => h3 z.symm
    simp [List.eraseDups_cons, q1, q2, q3]
  unfold swappedStores
  simp only [hbk]
  refine (if_neg (fun z => Bool.false_ne_true z)).trans ((if_neg (fun z => absurd (st.symm.trans z) (by decide))).trans ((if_neg (fun z => ?_)).trans ((if_neg (fun z => absurd (f1.symm.trans z) (by decide))).trans ((if_neg (fun z => absurd (f2.symm.trans z) (by decide))).trans ?_))))
  · have z2 : (([x, y, u] : List Str).length != 3 || ([x, y, u] : List Str).eraseDups.length != ([x, y, u] : List Str).length) = true := by
      rw [← nm]; exact z
    rw [dd] at z2
    exact Bool.false_ne_true z2
  · exact congrArg (fun l => (pure (some l) : Sem (Option (List Str)))) nm
section
variable {cf : Cf} {G : Gl} {C : Nat → List D → Hs → MP.R D} {ec : EC} {B : RB} {X : Cx} {pos px py pu pt pt2 : Pos} {kt k2 : Nat} {i j l : Nat} {x y u : Str} {a b c : Expr} {ms : List E}
theorem ss_par (hc : X.calm = true) (hN : X.N.Nodup) (hi : X.N[i]? = some x) (hj : X.N[j]? = some y) (hne : x ≠ y)
    (hx : X.env.scope.names.lookup x = some .local) (hy : X.env.scope.names.lookup y = some .local)
    (hw : swappedStores [.Tuple [.Name x px, .Name y py] kt pt] (.Tuple [a, b] k2 pt2) X.env = pure (some [x, y])) (ha : SndA G C ec B X [a, b] ms) :
    SndS G C ec B X (.Assign [.Tuple [.Name x px, .Name y py] kt pt] (.Tuple [a, b] k2 pt2) pos) (.asg (.tp [.nm i, .nm j]) (.tup ms)) := by
  have hij : i ≠ j := fun z => by subst z; exact hne (Option.some.inj (hi.symm.trans hj))
  intro W tk σ r sl D0 eB R S g
  simp only [evS, evE, Rq_bind] at g
  refine SM.of (ps_par hc hN hi hj hij hx hy pa_am hw) (ha tk eB R S (g.step R S fun xs h1 r1 vs ev n1 e1 R1 q1 S1 g1 => ?_))
  subst n1
  simp only [MP.R.bind, MP.R.q] at g1
  obtain ⟨sl2, h2, g1⟩ := GQ.of g1
  rcases xs with _ | ⟨d1, _ | ⟨d2, _ | ⟨d3, ds⟩⟩⟩
  · simp [asgT, asgTs] at h2
  · simp [asgT, asgTs] at h2
  · simp only [asgT, asgTs, Option.bind_some, Option.some.injEq] at h2
    subst h2
    obtain ⟨v1, ws, rfl, p1, q1⟩ := RVs.inv q1
    obtain ⟨v2, ws, rfl, p2, q1⟩ := RVs.inv q1
    cases RVs.invN q1
    exact ⟨_, _, rfl, g1 r1 _ rfl (Ext.refl r1) R1 ((S1.set p1).set p2)⟩
  · simp [asgT, asgTs] at h2
theorem ss_par3 (hc : X.calm = true) (hN : X.N.Nodup) (hi : X.N[i]? = some x) (hj : X.N[j]? = some y) (hl : X.N[l]? = some u) (h1 : x ≠ y) (h2 : x ≠ u) (h3 : y ≠ u)
    (hx : X.env.scope.names.lookup x = some .local) (hy : X.env.scope.names.lookup y = some .local) (hu : X.env.scope.names.lookup u = some .local)
    (hw : swappedStores [.Tuple [.Name x px, .Name y py, .Name u pu] kt pt] (.Tuple [a, b, c] k2 pt2) X.env = pure (some [x, y, u])) (ha : SndA G C ec B X [a, b, c] ms) :
    SndS G C ec B X (.Assign [.Tuple [.Name x px, .Name y py, .Name u pu] kt pt] (.Tuple [a, b, c] k2 pt2) pos) (.asg (.tp [.nm i, .nm j, .nm l]) (.tup ms)) := by
  have hij : i ≠ j := fun z => by subst z; exact h1 (Option.some.inj (hi.symm.trans hj))
  have hil : i ≠ l := fun z => by subst z; exact h2 (Option.some.inj (hi.symm.trans hl))
  have hjl : j ≠ l := fun z => by subst z; exact h3 (Option.some.inj (hj.symm.trans hl))
  intro W tk σ r sl D0 eB R S g
  simp only [evS, evE, Rq_bind] at g
  refine SM.of (ps_par3 hc hN hi hj hl hij hil hjl hx hy hu pa_am hw) (ha tk eB R S (g.step R S fun xs h1 r1 vs ev n1 e1 R1 q1 S1 g1 => ?_))
  subst n1
  simp only [MP.R.bind, MP.R.q] at g1
  obtain ⟨sl2, h2, g1⟩ := GQ.of g1
  rcases xs with _ | ⟨d1, _ | ⟨d2, _ | ⟨d3, _ | ⟨d4, ds⟩⟩⟩⟩
  · simp [asgT, asgTs] at h2
  · simp [asgT, asgTs] at h2
  · simp [asgT, asgTs] at h2
  · simp only [asgT, asgTs, Option.bind_some, Option.some.injEq] at h2
    subst h2
    obtain ⟨v1, ws, rfl, p1, q1⟩ := RVs.inv q1
    obtain ⟨v2, ws, rfl, p2, q1⟩ := RVs.inv q1
    obtain ⟨v3, ws, rfl, p3, q1⟩ := RVs.inv q1
    cases RVs.invN q1
    exact ⟨_, _, _, rfl, g1 r1 _ rfl (Ext.refl r1) R1 (((S1.set p1).set p2).set p3)⟩
  · simp [asgT, asgTs] at h2
end
end L2.MP
namespace L2.MP
open PySem PySem.Spec PyProof.Rows
section
variable {cf : Cf} {G : Gl} {C : Nat → List D → Hs → MP.R D} {ec : EC} {k n : Nat} {B : RB} {N : List Str} {sc scope : Scope} {X : Cx} {e a b c tg iter elt : Expr} {es ifs : List Expr} {m ma mb mc mo me : E} {ms : List E} {pos p2 p : Pos} {r r' : RC} {D0 : Ends} {W : WX} {σ : St} {sl : Sl}
theorem trTs_snd (hN : X.N.Nodup) (eN : X.N = N) (hc : X.calm = true) (hT : Tg sc X) (nd : Bool) : ∀ (n : Nat) (es : List Expr) (ts : List T), trTs nd n N sc es = some ts → es.any isStar = false → SndGs X es ts ∧ ts.length = es.length
  | 0, _, _, h, _ => by cases h
  | n + 1, [], ts, h, _ => by
    unfold trTs at h
    cases h
    exact ⟨sng_nil, rfl⟩
  | n + 1, e :: es, ts, h, hs => by
    unfold trTs at h
    obtain ⟨t1, h1, h⟩ := of_bind h
    obtain ⟨ts1, h2, h⟩ := of_bind h
    cases h
    simp only [List.any_cons, Bool.or_eq_false_iff] at hs
    obtain ⟨i1, i2⟩ := trTs_snd hN eN hc hT nd n es ts1 h2 hs.2
    refine ⟨sng_cons (fun h d sl sl' _ => ?_) (trT_snd hN eN hc hT n e t1 nd h1) i1, by simp [i2]⟩
    cases e <;> first | rfl | (cases hs.1; done)
theorem star_asg {x : Str} {px q : Pos} : ∀ {pre : List Expr}, pre.any isStar = false → ∀ env, (assignEach (pre ++ [.Starred (.Name x px) q]) env).map (·.2) = (assignEach (pre ++ [.Name x px]) env).map (·.2) ∧ (assignEach (pre ++ [.Starred (.Name x px) q]) env).findIdx? (·.1) = some pre.length ∧ (assignEach (pre ++ [.Starred (.Name x px) q]) env).length = pre.length + 1
  | [], _, env => ⟨rfl, rfl, rfl⟩
  | e :: pre, h, env => by
    simp only [List.any_cons, Bool.or_eq_false_iff] at h
    obtain ⟨h1, h2, h3⟩ := star_asg (x := x) (px := px) (q := q) h.2 env
    have e1 : ∀ es, assignEach (e :: es) env = (false, assign e env) :: assignEach es env := fun es => by cases e <;> first | rfl | (cases h.1; done)
    simp only [List.cons_append, e1, List.map_cons, h1, List.length_cons, h3]
    refine ⟨trivial, ?_, trivial⟩
    rw [List.findIdx?_cons]
    simp [h2]
theorem starOf_eq : ∀ {es : List Expr} {pre : List Expr} {x : Str} {px q : Pos}, starOf es = some (pre, x, px, q) → es = pre ++ [.Starred (.Name x px) q]
  | [], _, _, _, _, h => by cases h
  | e :: es, pre, x, px, q, h => by
    unfold starOf at h
    split at h
    · cases h
    · rename_i h0
      cases h
      cases h0
      rfl
    · rename_i e' es' hne h0
      obtain ⟨y, h1, h2⟩ := Option.map_eq_some_iff.mp h
      cases h0
      obtain ⟨pre', x', px', q'⟩ := y
      cases h2
      rw [starOf_eq h1]
      rfl
theorem ss_ast {x : Str} {pre : List Expr} {ts : List T} {px q : Pos} {k1 : Nat} {nd : Bool} (g0 : XG cf G C ec k B N sc X) (hc : X.calm = true) (hs : ∀ l, swapsWithSole [.Tuple (pre ++ [.Starred (.Name x px) q]) k1 p] a l X.env = pure false) (hs2 : swappedStores [.Tuple (pre ++ [.Starred (.Name x px) q]) k1 p] a X.env = pure none)
    (hst : pre.any isStar = false) (hg : SndGs X (pre ++ [.Name x px]) ts) (hl : ts.length = pre.length + 1) (ha : SndE G C ec B X a ma) : SndS G C ec B X (.Assign [.Tuple (pre ++ [.Starred (.Name x px) q]) k1 p] a pos) (.ast ts nd ma) := by
  intro W tk σ r sl D0 eB R S g
  simp only [evS] at g
  obtain ⟨f1, f2, f3⟩ := star_asg (x := x) (px := px) (q := q) hst X.env
  have pg : PG X (.Tuple (pre ++ [.Starred (.Name x px) q]) k1 p) (MZ.gStar X.K (pre.length + 1) pre.length (GMs X (pre ++ [.Starred (.Name x px) q]))) := MZ.pg_star hc pgs_gms f3 f2 (Nat.lt_succ_self _)
  refine SM.of (ps_asg pe_tm pg (hs _) hs2 rfl) (ha tk eB R S (g.step R S fun y h1 r1 v1 _ n1 e1 R1 q1 S1 g1 => ?_))
  subst n1
  obtain ⟨ds, hd, g1⟩ := GQ.of g1
  have hi : (ts.length ≤ ds.length + 1 ∧ ts ≠ [] ∧ ds.length ≤ lim) ∧ GQ ec r1 D0 W ((lstOf nd (ds.drop (ts.length - 1)) r1.ns).q sl fun y h => (MP.R.of (asgTs h ts (ds.take (ts.length - 1) ++ [y]) sl) h).q sl fun sl h => .ok .nx sl h) := by
    split at g1
    · exact ⟨by assumption, g1⟩
    · exact False.elim g1
  obtain ⟨⟨hl1, _, hl2⟩, g1⟩ := hi
  have e0 : ts.length - 1 = pre.length := by omega
  rw [e0] at g1
  obtain ⟨ad, vs, rfl, sq, rv⟩ := seqS R1 hd q1
  have eK : r1.B.K = X.K := by rw [e1.B, eB, g0.eK]
  rw [eK] at sq
  have hlen := rv.length
  refine ⟨_, ad, vs, rfl, sq, by rw [← hlen]; exact le_line hl2, by rw [← hlen]; omega, fun D hD => ?_⟩
  have t1 : (vs.drop pre.length).drop (vs.length + 1 - (pre.length + 1)) = [] := by
    apply List.drop_eq_nil_of_le
    rw [List.length_drop]
    omega
  have t2 : (vs.drop pre.length).take (vs.length + 1 - (pre.length + 1)) = vs.drop pre.length := by
    apply List.take_of_length_le
    rw [List.length_drop]
    omega
  rw [t1, t2, List.append_nil]
  have key : ∀ v H, GMs X (pre ++ [.Name x px]) (vs.take pre.length ++ [v]) σ H D0.nx → GMs X (pre ++ [.Starred (.Name x px) q]) (vs.take pre.length ++ [v]) σ H D0.nx := fun v H h => by
    unfold GMs at h ⊢
    have f1' : (List.map (fun x => Prod.snd x) (assignEach (pre ++ [.Starred (.Name x px) q]) X.env)) = List.map (fun x => Prod.snd x) (assignEach (pre ++ [.Name x px]) X.env) := f1
    rw [f1']
    exact h
  apply key
  refine mk_lstOf (Q := fun v H => GMs X (pre ++ [.Name x px]) (vs.take pre.length ++ [v]) σ H D0.nx) R1 (rv.drop pre.length) (g1.step R1 S1 fun y h2 r2 v2 _ n2 e2 R2 q2 S2 g2 => ?_) hD
  subst n2
  obtain ⟨sl2, ha2, g2⟩ := GQ.of g2
  exact hg (by rw [e2.B, eK]) R2 ((RVs.ext R1 e2 (rv.take pre.length)).append (RVs.cons q2 RVs.nil)) S2 ha2 fun σ' S' _ => g2 r2 σ' rfl (Ext.refl r2) R2 S'
theorem ss_asg2 {x y : Str} {i j : Nat} {px py : Pos} (g0 : XG cf G C ec k B N sc X) (hT : Tg sc X) (hx : N[i]? = some x) (hy : N[j]? = some y) (hlx : sc.names.lookup x = some .local ∨ sc.names.lookup x = some .cell) (hly : sc.names.lookup y = some .local ∨ sc.names.lookup y = some .cell)
    (hw : swappedStores [.Name x px, .Name y py] a X.env = pure none) (ha : SndE G C ec B X a ma) : SndS G C ec B X (.Assign [.Name x px, .Name y py] a pos) (.asg2 (.nm i) (.nm j) ma) := by
  intro W tk σ r sl D0 eB R S g
  simp only [evS] at g
  have hN : X.N.Nodup := by rw [g0.eN]; exact g0.nd
  obtain ⟨k1, k2⟩ := hT x hlx
  obtain ⟨k3, k4⟩ := hT y hly
  refine SM.of (ps_asg2 pe_tm (pg_name hN (by rw [g0.eN]; exact hx) k1 k2) (pg_name hN (by rw [g0.eN]; exact hy) k3 k4) rfl hw) (ha tk eB R S (g.step R S fun v h1 r1 v1 _ n1 e1 R1 q1 S1 g1 => ?_))
  subst n1
  obtain ⟨sl2, h2, g1⟩ := GQ.of g1
  obtain ⟨sl3, h3, g1⟩ := GQ.of g1
  simp only [asgT, Option.some.injEq] at h2 h3
  subst h2 h3
  exact g1 r1 _ rfl (Ext.refl r1) R1 ((S1.set q1).set q1)
theorem ss_aug {x : Str} {i : Nat} {px : Pos} {op : Operator} (hop : op = .Add ∨ op = .Sub) (hN : X.N.Nodup) (hi : X.N[i]? = some x) (hl : X.env.scope.names.lookup x = some .local) (ha : SndE G C ec B X a ma) : SndS G C ec B X (.AugAssign (.Name x px) op a pos) (.aug i op ma) := by
  intro W tk σ r sl D0 eB R S g
  simp only [evS, evE] at g
  have hx : ∃ d, sl[i]? = some (some d) := by
    cases h : sl[i]? with
    | none => rw [h] at g; exact False.elim g
    | some o =>
      cases o with
      | none => rw [h] at g; exact False.elim g
      | some d => exact ⟨d, rfl⟩
  obtain ⟨d, hd⟩ := hx
  obtain ⟨u, hu, ru⟩ := S.2 i d hd
  rw [hd] at g
  replace g : GQ ec r D0 W ((evE G C ma sl r.ns).q sl fun y h => (match (generalizing := false) d, y with
    | .int _, .int _ => (binD op d y h).q sl fun z h => .ok .nx (sl.set i (some z)) h
    | _, _ => .bad)) := g
  have key : ∀ t : TIp, PIp X op t → (∀ (v : V) (H : Hp) (Q : VK), True) → (∀ x y : Int, ∀ H Q, Q (.int (if op = .Add then x + y else x - y)) H → t (.int x) (.int y) H Q) → SM X (.AugAssign (.Name x px) op a pos) D0 σ r.H := fun t ht _ hq => by
    refine SM.of (ps_aug hN hi (.inl hl) pe_tm ht (.inr hl)) ⟨u, hu, ha tk eB R S (g.step R S fun y h1 r1 v1 _ n1 e1 R1 q1 S1 g1 => ?_)⟩
    subst n1
    split at g1
    · rename_i x1 x2 _ _
      have ru1 := RV.ext R e1 ru
      rw [rv_int ru1, rv_int q1]
      refine hq _ _ _ _ ?_
      rcases hop with rfl | rfl
      · exact g1 r1 _ rfl (Ext.refl r1) R1 (S1.set (mk_int _))
      · exact g1 r1 _ rfl (Ext.refl r1) R1 (S1.set (mk_int _))
    · exact False.elim g1
  rcases hop with rfl | rfl
  · exact key _ ip_add (fun _ _ _ => trivial) fun x y H Q q => ⟨x, y, rfl, rfl, q⟩
  · exact key _ ip_sub (fun _ _ _ => trivial) fun x y H Q q => ⟨x, y, rfl, rfl, q⟩
theorem ss_whl {body : List Stmt} {mbody : List S} (hpo : PassesOwn (model X.prog X.w) X.A X.env X.xe) (hc : SndT G C ec B X c mc) (hb : SndSs G C ec B X body mbody) : SndS G C ec B X (.While c body [] pos) (.whl mc mbody) := by
  intro W tk σ r sl D0 eB R S g
  replace g : GQ ec r D0 W (whlL (fun sl h => evT G C mc sl h) (fun sl h => evSs G C mbody sl h) wFuel sl r.ns) := by
    simp only [evS] at g
    exact g
  refine SM.of (ps_while hpo pt_ttm pss_sms) ⟨fun m σ1 H => ∃ (r1 : RC) (sl1 : Sl), r1.H = H ∧ Ext r r1 ∧ Rep r1 ∧ RS r1 sl1 σ1 ∧ GQ ec r1 D0 W (whlL (fun sl h => evT G C mc sl h) (fun sl h => evSs G C mbody sl h) m sl1 r1.ns), ⟨wFuel, r, sl, rfl, Ext.refl r, R, S, g⟩, fun m σ1 H ⟨r1, sl1, eH, e1, R1, S1, g1⟩ => ?_⟩
  subst eH
  have eB1 : r1.B = B := e1.B.trans eB
  cases m with
  | zero => exact False.elim g1
  | succ m =>
    unfold whlL at g1
    refine hc tk eB1 R1 S1 (g1.step R1 S1 fun t h2 r2 v2 _ n2 e2 R2 q2 S2 g2 => ?_)
    subst n2
    cases q2
    cases t with
    | false => exact g2 r2 σ1 rfl (Ext.refl r2) R2 S2
    | true =>
      refine ⟨fun σ' H' => ∃ (r3 : RC) (sl3 : Sl), r3.H = H' ∧ Ext r r3 ∧ Rep r3 ∧ RS r3 sl3 σ' ∧ GQ ec r3 D0 W (whlL (fun sl h => evT G C mc sl h) (fun sl h => evSs G C mbody sl h) m sl3 r3.ns), fun σ' H' ⟨r3, sl3, q1, q2, q3, q4, q5⟩ => ⟨m, by omega, r3, sl3, q1, q2, q3, q4, q5⟩, ?_⟩
      refine hb tk (e2.B.trans eB1) R2 S2 ?_
      replace g2 : GQ ec r2 D0 W (match evSs G C mbody sl1 r2.ns with
        | .ok .nx sl h => whlL (fun sl h => evT G C mc sl h) (fun sl h => evSs G C mbody sl h) m sl h
        | .ok .ct sl h => whlL (fun sl h => evT G C mc sl h) (fun sl h => evSs G C mbody sl h) m sl h
        | .ok .bk sl h => .ok .nx sl h
        | q => q) := g2
      cases ev : evSs G C mbody sl1 r2.ns with
      | bad => rw [ev] at g2; exact g2
      | exc c fs sl5 h5 => rw [ev] at g2; exact g2
      | ok f sl5 h5 =>
        rw [ev] at g2
        cases f with
        | rt d => exact g2
        | bk => exact g2
        | nx =>
          intro r5 σ5 n5 e5 R5 S5
          subst n5
          exact ⟨r5, sl5, rfl, (e1.trans e2).trans e5, R5, S5, GQ.ext e5 g2⟩
        | ct =>
          intro r5 σ5 n5 e5 R5 S5
          subst n5
          exact ⟨r5, sl5, rfl, (e1.trans e2).trans e5, R5, S5, GQ.ext e5 g2⟩
end
end L2.MP
namespace L2.MP
open PySem PySem.Spec PyProof.Rows
section
variable {G : Gl} {C : Nat → List D → Hs → MP.R D} {ec : EC} {k : Nat} {N : List Str} {pos p2 p : Pos}
/-- a place where statements stand: targets may be stored to; in calm places the frame is known -/
structure XT (cf : Cf) (sc : Scope) (X : Cx) : Prop where
  tg : Tg sc X
  xs : cf.calm = true → XS X
theorem swaps_no {a : Expr} (h : isLc a = false) {cf : Cf} {n : Nat} {sc : Scope} {m : E} (ht : trE cf n N sc a = some m) (t : Option Expr) (l : Nat) (env : Env) : swapsWith a t l env = pure false := by
  cases a <;> first | rfl | (cases h; done) | skip
  all_goals
    cases n with
    | zero => cases ht
    | succ n => unfold trE at ht; cases ht
theorem sub_no (a o i : Expr) (l : Nat) (env : Env) : swapsWithSole [.Subscript o i p] a l env = pure false := by cases a <;> rfl
theorem sub_none (a o i : Expr) (env : Env) : swappedStores [.Subscript o i p] a env = pure none := by cases a <;> rfl
theorem tup_no {k1 : Nat} (a : Expr) (es : List Expr) (l : Nat) (env : Env) : swapsWithSole [.Tuple es k1 p] a l env = pure false := by cases a <;> rfl
theorem tup_none {k1 : Nat} {a : Expr} {es : List Expr} (h : bothTup (.Tuple es k1 p) a = false) (env : Env) : swappedStores [.Tuple es k1 p] a env = pure none := by
  cases a <;> first | rfl | (cases h; done)
theorem trT_name {cf : Cf} {n : Nat} {sc : Scope} {nd : Bool} {x : Str} {t : T} (h : trT nd n N sc (.Name x p) = some t) : ∃ i, N[i]? = some x ∧ (sc.names.lookup x = some .local ∨ sc.names.lookup x = some .cell) ∧ t = .nm i := by
  cases n with
  | zero => cases h
  | succ n =>
    unfold trT at h
    simp only at h
    split at h
    · rename_i hl
      obtain ⟨i, hi, rfl⟩ := Option.map_eq_some_iff.mp h
      exact ⟨i, ixOf_get hi, .inl hl, rfl⟩
    · rename_i hl
      obtain ⟨i, hi, rfl⟩ := Option.map_eq_some_iff.mp h
      exact ⟨i, ixOf_get hi, .inr hl, rfl⟩
    · cases h
theorem trTs_name {cf : Cf} {n : Nat} {sc : Scope} {nd : Bool} {x : Str} {es : List Expr} {ts : List T} (h : trTs nd n N sc (.Name x p :: es) = some ts) : ∃ i m us, N[i]? = some x ∧ trTs nd m N sc es = some us ∧ ts = .nm i :: us := by
  cases n with
  | zero => cases h
  | succ n =>
    unfold trTs at h
    obtain ⟨t, h1, h⟩ := of_bind h
    obtain ⟨us, h2, h⟩ := of_bind h
    cases h
    obtain ⟨i, hi, _, rfl⟩ := trT_name (cf := cf) h1
    exact ⟨i, n, us, hi, h2, rfl⟩
theorem trTs_nil {n : Nat} {sc : Scope} {nd : Bool} {ts : List T} (h : trTs nd n N sc [] = some ts) : ts = [] := by
  cases n with
  | zero => cases h
  | succ n =>
    unfold trTs at h
    cases h
    rfl
theorem trT_tup {n : Nat} {sc : Scope} {nd : Bool} {es : List Expr} {k1 : Nat} {t : T} (h : trT nd n N sc (.Tuple es k1 p) = some t) : ∃ m ts, trTs nd m N sc es = some ts ∧ t = .tp ts := by
  cases n with
  | zero => cases h
  | succ n =>
    unfold trT at h
    obtain ⟨ts, h', e⟩ := Option.map_eq_some_iff.mp h
    exact ⟨n, ts, h', e.symm⟩
theorem trE_tup {cf : Cf} {n : Nat} {sc : Scope} {es : List Expr} {k1 : Nat} {m : E} (hk : hasP cf.nds p = false) (h : trE cf n N sc (.Tuple es k1 p) = some m) : ∃ n ms, trEs cf n N sc es = some ms ∧ m = .tup ms := by
  cases n with
  | zero => cases h
  | succ n =>
    unfold trE at h
    simp only at h
    split at h
    · obtain ⟨ms, h', e⟩ := Option.map_eq_some_iff.mp h
      rw [hk] at e
      exact ⟨n, ms, h', e.symm⟩
    · cases h
theorem ss_sw {cf : Cf} {n n2 : Nat} {B : RB} {sc : Scope} {X : Cx} {nd : Bool} {tg e : Expr} {t : T} {m : E} (g0 : XG cf G C ec k B N sc X) (hc : X.calm = true) (hw : parSw sc tg e = true) (hk : kupT cf.nds e = false) (h2 : trT nd n N sc tg = some t) (h1 : trE cf n2 N sc e = some m) : SndS G C ec B X (.Assign [tg] e pos) (.asg t m) := by
  have hN : X.N.Nodup := by rw [g0.eN]; exact g0.nd
  unfold parSw at hw
  split at hw
  · rename_i x px y py k1 p1 a b k2 p2
    simp only [parOk, Bool.and_eq_true, Bool.not_eq_true', decide_eq_true_eq] at hw
    obtain ⟨⟨⟨⟨w1, w2⟩, w3⟩, w4⟩, ⟨⟨w5, w6⟩, w7⟩, w8⟩ := hw
    obtain ⟨_, _, q0, rfl⟩ := trT_tup h2
    obtain ⟨i, _, _, hi, q1, rfl⟩ := trTs_name (cf := cf) q0
    obtain ⟨j, _, _, hj, q2, rfl⟩ := trTs_name (cf := cf) q1
    cases trTs_nil q2
    obtain ⟨_, ms, q9, rfl⟩ := trE_tup hk h1
    exact ss_par hc hN (by rw [g0.eN]; exact hi) (by rw [g0.eN]; exact hj) w7 (by rw [g0.eS]; exact locK_eq w5) (by rw [g0.eS]; exact locK_eq w6) (swp2 g0.eS (fnSc_eq w1) w7 (locK_eq w5) (locK_eq w6) w8 w2 w3 (not_star w4)) ((snd_all _ g0).es q9)
  · rename_i x px y py u pu k1 p1 a b c k2 p2
    simp only [parOk, Bool.and_eq_true, Bool.not_eq_true', decide_eq_true_eq] at hw
    obtain ⟨⟨⟨⟨w1, w2⟩, w3⟩, w4⟩, ⟨⟨⟨⟨⟨⟨w5, w6⟩, w7⟩, w8⟩, w9⟩, w10⟩, w11⟩, w12⟩ := hw
    obtain ⟨_, _, q0, rfl⟩ := trT_tup h2
    obtain ⟨i, _, _, hi, q1, rfl⟩ := trTs_name (cf := cf) q0
    obtain ⟨j, _, _, hj, q2, rfl⟩ := trTs_name (cf := cf) q1
    obtain ⟨l, _, _, hl, q3, rfl⟩ := trTs_name (cf := cf) q2
    cases trTs_nil q3
    obtain ⟨_, ms, q9, rfl⟩ := trE_tup hk h1
    exact ss_par3 hc hN (by rw [g0.eN]; exact hi) (by rw [g0.eN]; exact hj) (by rw [g0.eN]; exact hl) w8 w9 w10 (by rw [g0.eS]; exact locK_eq w5) (by rw [g0.eS]; exact locK_eq w6) (by rw [g0.eS]; exact locK_eq w7) (swp3 g0.eS (fnSc_eq w1) w8 w9 w10 (locK_eq w5) (locK_eq w6) (locK_eq w7) w11 w12 w2 w3 (not_star w4)) ((snd_all _ g0).es q9)
  · cases hw
structure SndStmts (cf : Cf) (G : Gl) (C : Nat → List D → Hs → MP.R D) (ec : EC) (N : List Str) (n : Nat) (B : RB) (sc : Scope) (X : Cx) : Prop where
  s : ∀ {st m}, trS cf n N sc st = some m → SndS G C ec B X st m
  ss : ∀ {st m}, trSs cf n N sc st = some m → SndSs G C ec B X st m
theorem snd_stmts : ∀ (n : Nat) {cf : Cf} {B : RB} {sc : Scope} {X : Cx}, XG cf G C ec k B N sc X → XT cf sc X → SndStmts cf G C ec N n B sc X
  | 0, cf, B, sc, X, g0, xt => ⟨(fun h => nomatch h), (fun h => nomatch h)⟩
  | n + 1, cf, B, sc, X, g0, xt => by
    have ih := snd_stmts n g0 xt
    have ex := snd_all n g0
    refine ⟨fun {st m} h => ?_, fun {st m} h => ?_⟩
    · unfold trS at h
      split at h
      · obtain ⟨e, h1, h⟩ := of_bind h
        obtain ⟨o, h2, h⟩ := of_bind h
        obtain ⟨i, h3, h⟩ := of_bind h
        cases h
        refine ss_sto g0 (fun lo hh st pp z => ?_) (fun l => sub_no _ _ _ _ _) (sub_none _ _ _ _) (ex.e h1).1 (ex.e h2).1 (ex.e h3).1
        subst z
        cases n with
        | zero => cases h3
        | succ n => unfold trE at h3; cases h3
      · rename_i tg0 a0 pos0 hnsub
        split at h
        · rename_i pre x px q0 hst
          split at h
          · rename_i hk
            simp only [Bool.and_eq_true, Bool.not_eq_true'] at hk
            obtain ⟨⟨hcm, hbo⟩, hns⟩ := hk
            obtain ⟨ma, h1, h⟩ := of_bind h
            obtain ⟨ts, h2, h⟩ := of_bind h
            cases h
            cases tg0 <;> first | (cases hst; done) | skip
            rename_i es k1 pt
            have he : es = pre ++ [.Starred (.Name x px) q0] := starOf_eq hst
            subst he
            have hN : X.N.Nodup := by rw [g0.eN]; exact g0.nd
            obtain ⟨i1, i2⟩ := trTs_snd hN g0.eN (g0.calm hcm).1 xt.tg false n _ ts h2 (by rw [List.any_append, hns]; rfl)
            exact ss_ast g0 (g0.calm hcm).1 (fun l => tup_no _ _ _ _) (tup_none hbo _) hns i1 (by rw [i2]; simp) (ex.e h1).1
          · cases h
        split at h
        · cases h
        · rename_i hbt
          simp only [Bool.or_eq_true, not_or, Bool.not_eq_true] at hbt
          obtain ⟨ma, h1, h⟩ := of_bind h
          obtain ⟨t, h2, h⟩ := of_bind h
          cases h
          have hN : X.N.Nodup := by rw [g0.eN]; exact g0.nd
          cases tg0 with
          | Name x px =>
            obtain ⟨i, hi, hl, rfl⟩ := trT_name (cf := cf) h2
            obtain ⟨k1, k2⟩ := xt.tg x hl
            have hi2 : X.N[i]? = some x := by rw [g0.eN]; exact hi
            cases hlc : isLc a0 with
            | false => exact ss_name hN hi2 k1 k2 (fun l => swaps_no hlc h1 _ _ _) (ex.e h1).1
            | true =>
              cases a0 with
              | ListComp elt gens sc2 p0 =>
                have hb : ∃ b : Bool, ∀ l, swapsWith (.ListComp elt gens sc2 p0) (some (.Name x px)) l X.env = pure b ∧ (b = true → X.env.scope.names.lookup x = some .local) := by
                  refine ⟨_, fun l => ⟨rfl, fun hb => ?_⟩⟩
                  simp only [Bool.and_eq_true] at hb
                  exact eq_of_beq hb.1.1.2
                obtain ⟨b, hb⟩ := hb
                cases b with
                | false => exact ss_name hN hi2 k1 k2 (fun l => (hb l).1) (ex.e h1).1
                | true =>
                  intro W tk σ r sl D0 eB R S g pins s I
                  simp only [evS] at g
                  refine ex.l h1 tk hi ((hb pos0.line).2 rfl) (hb pos0.line).1 eB R S (g.step R S fun y h1 r1 v1 _ n1 e1 R1 q1 S1 g1 => ?_) pins s I
                  subst n1
                  obtain ⟨sl2, h2, g1⟩ := GQ.of g1
                  simp only [asgT, Option.some.injEq] at h2
                  subst h2
                  exact g1 r1 _ rfl (Ext.refl r1) R1 (S1.set q1)
              | _ => cases hlc
          | Tuple es k1 px =>
            cases hcm : cf.calm with
            | true =>
              have hz := hbt.1.1
              cases hbo : bothTup (.Tuple es k1 px) a0 with
              | false => exact ss_tup (g0 := g0) (fun l => tup_no _ _ _ _) (tup_none hbo _) rfl (trT_snd hN g0.eN (g0.calm hcm).1 xt.tg n _ t _ h2) (ex.e h1).1
              | true =>
                cases hno : parNo (.Tuple es k1 px) a0 with
                | true => exact ss_tup (g0 := g0) (fun l => tup_no _ _ _ _) (swp_no hno _) rfl (trT_snd hN g0.eN (g0.calm hcm).1 xt.tg n _ t _ h2) (ex.e h1).1
                | false =>
                  rw [hbo, hno] at hz
                  simp only [Bool.true_and, Bool.false_or, Bool.not_eq_false', Bool.and_eq_true, Bool.not_eq_true'] at hz
                  exact ss_sw g0 (g0.calm hcm).1 hz.1 hz.2 h2 h1
            | false => simp [isTup, hcm] at hbt
          | Starred u px => cases hbt.1.2
          | _ =>
            cases n with
            | zero => cases h2
            | succ n => unfold trT at h2; cases h2
      · cases h; exact ss_doc
      · split at h
        · cases h
        · rename_i hl
          obtain ⟨a, h1, rfl⟩ := Option.map_eq_some_iff.mp h
          exact ss_ex (fun l => swaps_no (by simpa using hl) h1 _ _ _) (ex.e h1).1
      · cases h; exact ss_retN
      · obtain ⟨a, h1, rfl⟩ := Option.map_eq_some_iff.mp h
        exact ss_ret (ex.e h1).1
      · obtain ⟨c, h1, h⟩ := of_bind h
        obtain ⟨x, h2, h⟩ := of_bind h
        obtain ⟨y, h3, h⟩ := of_bind h
        cases h
        exact ss_ite (ex.e h1).2 (ih.ss h2) (ih.ss h3)
      · obtain ⟨it, h1, h⟩ := of_bind h
        obtain ⟨t, h2, h⟩ := of_bind h
        obtain ⟨b, h3, h⟩ := of_bind h
        split at h
        · rename_i hk
          cases h
          simp only [Bool.and_eq_true] at hk
          obtain ⟨q1, q2⟩ := ex.i h1 hk.2
          exact ss_for g0 (xt.xs hk.1).po (g0.calm hk.1).1 (tr_fold q2 X.env) q1 (trT_snd (by rw [g0.eN]; exact g0.nd) g0.eN (g0.calm hk.1).1 xt.tg n _ t false h2) (ih.ss h3)
        · cases h
      · split at h
        · rename_i hk
          simp only [Bool.and_eq_true] at hk
          obtain ⟨c, h1, h⟩ := of_bind h
          split at h
          · rename_i har
            obtain ⟨ms, h2, rfl⟩ := Option.map_eq_some_iff.mp h
            refine ss_rais g0 hk.1 h1 hk.2 har (trEs_len h2) (ex.es h2) (tr_stars h2 X.env) fun e1 es1 e => ?_
            subst e
            cases n with
            | zero => cases h2
            | succ n =>
              unfold trEs at h2
              obtain ⟨a, h4, _⟩ := of_bind h2
              exact tr_star h4 _ _
          · cases h
        · cases h
      · rename_i body x px y s0 suite pos1 pos2
        split at h
        · rename_i hk
          simp only [Bool.and_eq_true, Option.isNone_iff_eq_none] at hk
          obtain ⟨⟨hg, hc⟩, hf⟩ := hk
          obtain ⟨mb, h1, h⟩ := of_bind h
          obtain ⟨c, h2, h⟩ := of_bind h
          obtain ⟨i, h3, h⟩ := of_bind h
          obtain ⟨ms, h4, h⟩ := of_bind h
          cases h
          split at h3
          · rename_i hl
            have xs := xt.xs hc
            exact ss_try g0 xs hc hg h2 (ixOf_get h3) hl
              (fun pn xe po gtr => (snd_stmts n gtr ⟨xt.tg, fun _ => ⟨xs.st, xs.fr, po⟩⟩).ss h1)
              (fun a d c' oe pn vs hz hv hx' gsu => (snd_stmts n gsu ⟨xt.tg, fun z => nomatch z⟩).ss h4)
          · cases h3
        · cases h
      · rename_i t1 t2 a0 p0
        split at h
        · cases h
        · rename_i hk
          simp only [Bool.or_eq_true, not_or, Bool.not_eq_true] at hk
          obtain ⟨⟨⟨k1, k2⟩, k3⟩, k4⟩ := hk
          obtain ⟨ma, h1, h⟩ := of_bind h
          obtain ⟨u1, h2, h⟩ := of_bind h
          obtain ⟨u2, h3, h⟩ := of_bind h
          split at h
          · rename_i i j
            cases h
            have nm : ∀ {t : Expr} {i : Nat}, isStar t = false → trT false n N sc t = some (.nm i) → ∃ x p, t = .Name x p := fun {t i} hs ht => by
              cases n with
              | zero => cases ht
              | succ n =>
                unfold trT at ht
                split at ht
                · exact ⟨_, _, rfl⟩
                · obtain ⟨_, _, z⟩ := Option.map_eq_some_iff.mp ht
                  cases z
                · cases hs
                · cases ht
            obtain ⟨x, px, rfl⟩ := nm k2 h2
            obtain ⟨y, py, rfl⟩ := nm k3 h3
            obtain ⟨i', hi, hl, e1⟩ := trT_name (cf := cf) h2
            obtain ⟨j', hj, hl2, e2⟩ := trT_name (cf := cf) h3
            cases e1
            cases e2
            exact ss_asg2 g0 xt.tg hi hj hl hl2 (by cases a0 <;> first | rfl | (cases k1; done)) (ex.e h1).1
          · cases h
      · rename_i x px op a0 p0
        obtain ⟨i, h1, h⟩ := of_bind h
        obtain ⟨ma, h2, h⟩ := of_bind h
        have hN : X.N.Nodup := by rw [g0.eN]; exact g0.nd
        have hl : sc.names.lookup x = some .local ∧ ixOf N x = some i := by
          split at h1
          · exact ⟨by assumption, h1⟩
          · cases h1
        split at h
        · cases h
          exact ss_aug (.inl rfl) hN (by rw [g0.eN]; exact ixOf_get hl.2) (by rw [g0.eS]; exact hl.1) (ex.e h2).1
        · cases h
          exact ss_aug (.inr rfl) hN (by rw [g0.eN]; exact ixOf_get hl.2) (by rw [g0.eS]; exact hl.1) (ex.e h2).1
        · cases h
      · split at h
        · rename_i hcm
          obtain ⟨mc, h1, h⟩ := of_bind h
          obtain ⟨mb, h2, h⟩ := of_bind h
          cases h
          exact ss_whl (xt.xs hcm).po (ex.e h1).2 (ih.ss h2)
        · cases h
      · cases h; exact ss_pass
      · cases h; exact ss_brk
      · cases h; exact ss_cnt
      · cases h
    · cases st with
      | nil =>
        unfold trSs at h
        cases h
        exact ss_nil
      | cons s ss =>
        unfold trSs at h
        obtain ⟨a, h1, h⟩ := of_bind h
        obtain ⟨r, h2, h⟩ := of_bind h
        cases h
        exact ss_cons (ih.s h1) (ih.ss h2)
end
end L2.MP
namespace L2.MP
open PySem PySem.Spec PyProof.Rows
section
variable {cf : Cf} {G : Gl} {C : Nat → List D → Hs → MP.R D} {ec : EC} {k n : Nat} {K : PySem.W.Frag} {P : Program} {w : World} {mg : Str → Option Value} {base : Heap} {fl : FL}
theorem start_rs {r : RC} {N : List Str} {xs : List D} {vs : List V} (h : RVs r xs vs) (hN : vs.length ≤ N.length) : RS r (xs.map some ++ List.replicate (N.length - xs.length) none) (start N vs) := by
  have hl := h.length
  refine ⟨by unfold start; simp; omega, fun i d q => ?_⟩
  by_cases hi : i < xs.length
  · rw [List.getElem?_append_left (by simpa using hi)] at q
    simp only [List.getElem?_map, Option.map_eq_some_iff] at q
    obtain ⟨x, hx, e⟩ := q
    cases e
    obtain ⟨v, hv, rv⟩ := h.get hx
    refine ⟨v, ?_, rv⟩
    unfold start
    rw [List.getElem?_append_left (by rw [List.length_map, ← hl]; exact hi)]
    simp [hv]
  · rw [List.getElem?_append_right (by simpa using hi)] at q
    have := List.mem_of_getElem? q
    rw [List.mem_replicate] at this
    cases this.2
/-- a def of the program keeps the interpreter's promise -/
theorem def_ok {qual x : Str} {params : Arguments} {body : List Stmt} {scope : Scope} {f : Addr} {fd : FuncData} {N ps : List Str} {mb : List S} {g : List D → Hs → MP.R D} (wf : WF cf G C ec k P w K fl mg base) (hcalm : cf.calm = true)
    (F : FunD K x qual params body scope [] [] f fd) (S0 : FnScope N ps scope) (hnn : ∀ x ∈ N, (x == ("__debug__" : Str)) = false ∧ (x == ("__classdict__" : Str)) = false) (ht : trSs cf n N scope body = some mb)
    (hg : ∀ xs h, g xs h = if xs.length = ps.length then (match evSs G C mb (xs.map some ++ List.replicate (N.length - ps.length) none) h with
      | .ok (.rt v) _ h => .ok v h
      | .ok .nx _ h => .ok .non h
      | .exc c fs _ h => .exc c fs h
      | _ => .bad) else .bad) :
    FnG P w K mg base (L2.CX P w) (k + 1) f fd ps (spOf ec K fl ps.length g) := by
  refine fnG_of F S0 (fun {vs H Q E} ⟨r, xs, _, _, _, _, _, _, hl, _⟩ => hl) (fun cdv A outer s H vs Q E hgd hr ⟨r, xs, hK, hfl, hxa, hH, R, rv, hl, gd⟩ => ⟨SMs _ body, pss_sms, ?_⟩)
  subst hH
  have hxl : xs.length = ps.length := by rw [rv.length, hl]
  have hpl : ps.length ≤ N.length := by have := congrArg List.length S0.pre; rw [List.length_take] at this; omega
  have g0 : XG cf G C ec k r.B N scope (cxOf (L2.CX P w) P w K mg base N qual scope f cdv A outer s r.H E) := ⟨hK.symm, S0.nd, (by have hu := hr.un; show (A.deeper _).units + 100 < cLine; omega), hgd, rfl, rfl, hnn, (fun a c d h => by rw [hxa] at h; cases h), fun _ => ⟨rfl, hr, hxa⟩, by rw [hfl]; exact wf⟩
  have xt : XT cf scope (cxOf (L2.CX P w) P w K mg base N qual scope f cdv A outer s r.H E) := ⟨fun x h => ⟨h, .inl rfl⟩, fun _ => ⟨rfl, rfl, passes_of rfl⟩⟩
  have tk : Takes (cxOf (L2.CX P w) P w K mg base N qual scope f cdv A outer s r.H E) (fun cls d _ H => E cls d H) := takes_of rfl rfl rfl rfl
  refine (snd_stmts n g0 xt).ss ht tk rfl R (start_rs rv (by rw [hl]; exact hpl)) ?_
  rw [hg, if_pos hxl] at gd
  rw [← hxl] at gd
  cases ev : evSs G C mb (xs.map some ++ List.replicate (N.length - xs.length) none) r.ns with
  | bad => rw [ev] at gd; exact gd
  | exc c fs sl h => rw [ev] at gd; exact fun r' σ' d n e R' S' q => gd r' d n e R' q
  | ok fl2 sl h =>
    rw [ev] at gd
    cases fl2 with
    | nx => exact fun r' σ' n e R' S' => gd r' .non n e R' mk_non
    | rt v => exact gd
    | bk => exact False.elim gd
    | ct => exact False.elim gd
end
end L2.MP
namespace L2.MP
open PySem PySem.Spec PyProof.Rows
section
variable {cf : Cf} {G : Gl} {ec : EC} {K : PySem.W.Frag} {P : Program} {w : World} {mg : Str → Option Value} {base : Heap} {fl : FL} {Fs : List Fn}
/-- one def's text and facts -/
structure DefOk (cf : Cf) (K : PySem.W.Frag) (mg : Str → Option Value) (x : Str) (fn : Fn) : Prop where
  hd : (x == ("__debug__" : Str)) = false
  ex : ∃ (n0 : Nat) (qual : Str) (params : Arguments) (body : List Stmt) (scope : Scope) (f : Addr) (fd : FuncData) (N ps : List Str), mg x = some (.ref f) ∧ FunD K x qual params body scope [] [] f fd ∧ FnScope N ps scope ∧
    (∀ x ∈ N, (x == ("__debug__" : Str)) = false ∧ (x == ("__classdict__" : Str)) = false) ∧ trSs cf n0 N scope body = some fn.body ∧ fn.np = ps.length ∧ fn.ns = N.length ∧ Binds K fd ps []
/-- the facts but the defs' -/
structure WF0 (cf : Cf) (G : Gl) (ec : EC) (P : Program) (w : World) (K : PySem.W.Frag) (fl : FL) (mg : Str → Option Value) (base : Heap) : Prop where
  gl : ∀ (i : Nat) (x : Str) (d : D), cf.gls[i]? = some x → G.gls[i]? = some d → (x == ("__debug__" : Str)) = false ∧ ∃ v u, mg x = some u ∧ RelV v u ∧ ∀ r : RC, r.B.K = K → RV r d v
  bi : ∀ x : Str, biN x = true → ixOf cf.fns x = none → ixOf cf.exs x = none → mg x = none
  exc : ∀ (c : Nat) (x : Str), cf.exs[c]? = some x → (x == ("__debug__" : Str)) = false ∧ ∃ a, mg x = some (.ref a) ∧ ec c = .ref a
  mkx : ∀ (X : Cx), X.prog = P → X.w = w → X.K = K → X.mg = mg → X.base = base → X.calm = true → Room 3 X.A → ∀ (c : Nat) (x : Str) (m : Nat) (p pos : Pos), cf.exs[c]? = some x → cf.ars[c]? = some (some m) → L2.Gl X x → MkOk ec fl X c x m p pos
  ars : ∀ (c m : Nat), cf.ars[c]? = some (some m) → (fl c).length = m
  fls : ∀ (c : Nat) (x : Str), cf.exs[c]? = some x → ∃ ns, G.fls[c]? = some ns ∧ fl c = ns.map (fun n => (⟨n.toArray⟩ : Str)) ∧ ns.Nodup
  fno : ∀ (c : Nat) (x : Str), cf.exs[c]? = some x → ∀ a, ec c = .ref a → ∀ f ∈ fl c, PySem.W.findIn K (.ref a) f = some none
  exl : ∀ (c : Nat), c < G.exb.length → ∃ x, cf.exs[c]? = some x
  flc : ∀ (c : Nat) (x : Str), cf.exs[c]? = some x → G.flc[c]? = some (fl c).length
  exk : ∀ (c : Nat) (x : Str), cf.exs[c]? = some x → (∀ a, ec c = .ref a → ExcC K a) ∧ (∀ (c' : Nat) (x' : Str), cf.exs[c']? = some x' → PySem.W.kitOne K (ec c) (ec c') = some (c == c')) ∧ ∀ (s t : String), (s = "ValueError" ∨ s = "KeyError" ∨ s = "OverflowError") → G.exb[c]? = some t → PySem.W.kitOne K (ec c) (.type s) = some (t == s)
  sys : ∃ o, K.lookup sysModules = some o ∧ o.cls = .type "dict"
  exm : ∀ (c c' : Nat) (x x' : Str), cf.exs[c]? = some x → cf.exs[c']? = some x' → PySem.W.exmOne K (ec c) (ec c') = some (decide (c = c'))
  gd : ∀ (i : Nat) (x : Str), cf.gds[i]? = some x → ∃ p, G.gds[i]? = some p ∧ (x == ("__debug__" : Str)) = false ∧ ∃ a, mg x = some (.ref a) ∧ GdOk K w a p
theorem Room.down {j k : Nat} {A : Around} (h : Room k A) (hj : j ≤ k) : Room j A := ⟨h.hd, by have := h.dp; omega, by have := h.un; omega⟩
theorem wf_all (w0 : WF0 cf G ec P w K fl mg base) (hcalm : cf.calm = true) (hF : ∀ (f : Nat) (x : Str), cf.fns[f]? = some x → ∃ fn, Fs[f]? = some fn ∧ DefOk cf K mg x fn) : ∀ n, WF cf G (callN G Fs n) ec (n + 3) P w K fl mg base
  | 0 => ⟨fun f x hx => by
      obtain ⟨fn, hfn, hd, n0, qual, params, body, scope, fa, fd, N, ps, h1, h2, h3, h4, h5, h6, h7, h8⟩ := hF f x hx
      exact ⟨hd, fa, fd, ps, h1, h2.kp, h8, ⟨fun {vs H Q E} ⟨r, xs, _, _, _, _, _, _, hl, _⟩ => hl, fun {A outer s H args us vs Q E} _ hr e0 hb rv ⟨r, xs, _, _, _, _, _, _, _, gd⟩ => False.elim gd⟩, fun vs h z => absurd rfl z⟩,
    w0.gl, w0.bi, w0.exc, fun X a1 a2 a3 a4 a5 a6 hr => w0.mkx X a1 a2 a3 a4 a5 a6 (Room.down hr (by omega)), w0.ars, w0.fls, w0.fno, w0.exl, w0.flc, w0.exk, w0.sys, w0.exm, w0.gd⟩
  | n + 1 => ⟨fun f x hx => by
      obtain ⟨fn, hfn, hd, n0, qual, params, body, scope, fa, fd, N, ps, h1, h2, h3, h4, h5, h6, h7, h8⟩ := hF f x hx
      have hg : ∀ xs h, callN G Fs (n + 1) f xs h = if xs.length = ps.length then (match evSs G (callN G Fs n) fn.body (xs.map some ++ List.replicate (N.length - ps.length) none) h with
        | .ok (.rt v) _ h => .ok v h
        | .ok .nx _ h => .ok .non h
        | .exc c fs _ h => .exc c fs h
        | _ => .bad) else .bad := fun xs h => by
        simp only [callN, hfn, h6, h7]
        try rfl
      refine ⟨hd, fa, fd, ps, h1, h2.kp, h8, def_ok (wf_all w0 hcalm hF n) hcalm h2 h3 h4 h5 hg, fun vs h z => ?_⟩
      rw [hg] at z
      by_cases hl : vs.length = ps.length
      · exact hl
      · rw [if_neg hl] at z
        exact absurd rfl z,
    w0.gl, w0.bi, w0.exc, fun X a1 a2 a3 a4 a5 a6 hr => w0.mkx X a1 a2 a3 a4 a5 a6 (Room.down hr (by omega)), w0.ars, w0.fls, w0.fno, w0.exl, w0.flc, w0.exk, w0.sys, w0.exm, w0.gd⟩
end
end L2.MP
namespace L2.MP
open PySem PySem.Spec PyProof.Rows
section
variable {X : Cx}
theorem made0 {pins : List (Addr × Obj)} {σ : St} {H1 : Hp} {hp hp2 h2 : Heap} {g1 g2 : Array GenState} {d1 d2 : Drawn} {t1 t2 : Nat} {os1 os2 : OsState} {a C : Addr} (I1 : Inv X pins σ H1 ⟨hp, g1, d1, t1, os1⟩)
    (ha : hp.objs.size ≤ a) (kk : ∀ b o, hp.get? b = some o → hp2.get? b = some o) (un : Un (frs X.stack) [] (upd H1 a (exo a C none)) (upd H1 a (exo a C none)) hp2 h2) (hok : HOk X.prog X.w (upd H1 a (exo a C none)) h2) (ho : os2 = os1) (hb : AllBare g2) :
    ∃ (t0 : Addr) (Gh : Heap), Inv X pins σ H1 ⟨Gh, g2, d2, t2, os2⟩ ∧ (∀ b o, Gh.get? b = some o → h2.get? b = some o) ∧ Gh.get? a = none ∧
      h2.get? a = some ({ cls := .ref C, dict := none, data := .fields #[.ref t0, .none, .none, .none, .bool false, .none] } : Obj) ∧ H1 a = none := by
  have ea : upd H1 a (exo a C none) a = some (exo a C none) := upd_same
  obtain ⟨t0, hoe⟩ := exo_at hok ea
  have hn : H1 a = none := I1.hok.fresh ha
  obtain ⟨Gh, r1, r2⟩ := restrict h2 fun b => decide (b ≠ a)
  have gk : ∀ b, b ≠ a → Gh.get? b = h2.get? b := fun b hb => r1 b (decide_eq_true hb)
  have ge : Gh.get? a = none := r2 a (by simp)
  have nha : ∀ {b : Addr} {o : Obj}, hp.get? b = some o → b ≠ a := fun {b o} z => Nat.ne_of_lt (Nat.lt_of_lt_of_le (Heap.lt_size z) ha)
  have up : ∀ {b : Addr}, b ≠ a → H1 b = none → upd H1 a (exo a C none) b = none := fun {b} hb n => (upd_ne hb).trans n
  have U : Un (frs X.stack) [] H1 H1 hp Gh := {
    keep := fun b o z n hf hx => (gk b (nha z)).trans (un.keep b o (kk b o z) (up (nha z) n) hf hx)
    slot := fun b o z n hf hx => by
      obtain ⟨sl, q⟩ := un.slot b o (kk b o z) (up (nha z) n) hf hx
      exact ⟨sl, (gk b (nha z)).trans q⟩
    free := fun b o z n hx => n
    there := fun b o z hx => by
      obtain ⟨o', q⟩ := un.there b o (kk b o z) hx
      exact ⟨o', (gk b (nha z)).trans q⟩
    tups := fun b xs z => z
    frzs := fun b o v z => z
    tbls := fun b ps z => ⟨#[], by rw [Array.append_empty]; exact z⟩ }
  have hok3 : HOk X.prog X.w H1 Gh := fun b o z => by
    have hba : b ≠ a := ne_of_none z hn
    have q := hok b o (by rw [upd_ne hba]; exact z)
    have noa : ∀ {c : Addr}, upd H1 a (exo a C none) c = some (.own b) → c ≠ a := fun {c} hc => at_ne ea hc exo_own
    exact q.stay (fun c v hc y => by
        have hca : c ≠ a := by
          rcases hc with hc | hc
          · rw [hc]
            exact hba
          · exact noa hc
        exact (gk c hca).trans y)
      (fun c hc => by rw [upd_ne (noa hc)] at hc; exact hc) (fun c xs hc => by rw [upd_ne (at_ne ea hc exo_tup)] at hc; exact hc)
  exact ⟨t0, Gh, I1.call' (ch := []) ho U hok3 hb (fun b z => absurd z (by simp)), fun b o z => by
    by_cases hba : b = a
    · rw [hba, ge] at z; cases z
    · exact (gk b hba).symm.trans z, ge, hoe, hn⟩
/-- what __init__ of such a class does -/
def spI0 (K : PySem.W.Frag) : Sp := fun vs H Q _ => ∃ a C : Addr, vs = [.ref a] ∧ OexC K C ∧ H a = some (exo a C none) ∧ Q .non H
theorem pmk0 {x : Str} {C fI : Addr} {k : Nat} {fd : FuncData} {ps : List Str} {p pos : Pos} (T : OexC X.K C) (iC : PySem.W.findIn X.K (.ref C) "__init__" = some (some (.ref fI))) (tI : PySem.W.typeIn X.K (.ref fI) = some (.type "function"))
    (F1 : FnOk X.prog X.w X.K X.mg X.base (L2.CX X.prog X.w) k fI fd ps (spI0 X.K)) (hr : Room (k + 1) X.A) (hb : Binds X.K fd ps []) (hg : L2.Gl X x) (hm : X.mg x = some (.ref C)) (hdb : (x == ("__debug__" : Str)) = false) :
    PMk X (.Call (.Name x p) [] [] pos) (fun _ H Q => Q (.ref C) none H) := by
  intro pins s σ H Q I h
  obtain ⟨nm, q, N, bs, bm, sn, sub, ab, col, dd, k0, k1, k2, k3, k5, hC, hbm⟩ := T.cls
  refine wpAny_Call_Name_kw (ld_glob I hg hm ?_ hdb)
  refine PySem.W.callWith_K0 I.kIn T.kC ?_
  show wpAny _ _ (call (.ref C) []) _ _ _
  obtain ⟨hp, g, dr, tk, os⟩ := s
  have hsz : hp.objs.size ≤ hp.objs.size + 1 := Nat.le_succ _
  have hn : H (hp.objs.size + 1) = none := I.hok.fresh hsz
  have kk : ∀ b o, hp.get? b = some o → ((hp.push (PySem.W.kdv_tup [])).push (PySem.HandSPX.excO C hp.objs.size)).get? b = some o := fun b o e => Heap.get?_push_of_some _ (Heap.get?_push_of_some _ e)
  have hget : ((hp.push (PySem.W.kdv_tup [])).push (PySem.HandSPX.excO C hp.objs.size)).get? (hp.objs.size + 1) = some (PySem.HandSPX.excO C hp.objs.size) := by heap_get
  have I2 : Inv X pins σ (upd H (hp.objs.size + 1) (exo (hp.objs.size + 1) C none)) ⟨(hp.push (PySem.W.kdv_tup [])).push (PySem.HandSPX.excO C hp.objs.size), g, dr, tk, os⟩ :=
    I.laid (t' := tk) (a := hp.objs.size + 1) (o := exo (hp.objs.size + 1) C none) (h' := (hp.push (PySem.W.kdv_tup [])).push (PySem.HandSPX.excO C hp.objs.size)) kk hsz (exo_ok hget)
  have hq : spI0 X.K [V.ref (hp.objs.size + 1)] (upd H (hp.objs.size + 1) (exo (hp.objs.size + 1) C none)) (fun v H2 => v = .non ∧ H2 = upd H (hp.objs.size + 1) (exo (hp.objs.size + 1) C none)) (fun _ _ _ => False) := ⟨_, C, rfl, T, upd_same, rfl, rfl⟩
  have r2 : Vals [V.ref (hp.objs.size + 1)] [Value.ref (hp.objs.size + 1)] := .cons rfl .nil
  have hl : ([Value.ref (hp.objs.size + 1)] : List Value).length = ps.length := by
    have e := F1.len _ _ _ _ hq
    simpa using e
  have hb2 := hb ⟨(hp.push (PySem.W.kdv_tup [])).push (PySem.HandSPX.excO C hp.objs.size), g, dr, tk, os⟩ [Value.ref (hp.objs.size + 1)] I2.kIn (by rw [List.append_nil]; exact hl)
  rw [List.append_nil] at hb2
  refine wpAny_call (PySem.HandSPX.call_own F.excBase_ValueError (fun Y => PySem.HandSPX.refsVE_contains Y bm hbm) (I.kIn _ _ hC) (PySem.W.looks_findIn I.kIn iC) (fun self => PySem.W.bind_fn I.kIn self tI) (Nat.zero_le _)
    (codeAny_mono (F1.run _ X.stack _ _ ⟨[Value.ref (hp.objs.size + 1)], []⟩ [Value.ref (hp.objs.size + 1)] _ _ (fun _ _ _ => False) (hr.make C [] []) (I2.env0.make C [] []) hb2 r2 hq) fun r s' hq' => ?_))
  cases r with
  | error er =>
    obtain ⟨_, _, _, _, _, _, _, _, _, _, _, _, z⟩ := hq'
    exact False.elim z
  | ok fl =>
    cases fl with
    | ret u =>
      obtain ⟨v, H2, os2, bare2, un2, hok2, rv, ev, eH⟩ := hq'
      subst ev eH
      obtain ⟨h2, g2, d2, t2, os'⟩ := s'
      obtain ⟨t0, Gh, J, kG, ge, hoe, na⟩ := made0 (d2 := d2) (t2 := t2) I hsz kk un2 hok2 os2 bare2
      exact ⟨rv, _, _, _, ⟨Gh, g2, d2, t2, os'⟩, H, .ref C, none, rfl, J, kG, ge, hoe, ⟨rfl, rfl⟩, rfl, rfl, na, rfl, bare2, raises_own T.exC T.tyC, h⟩
    | next => exact False.elim hq'
    | brk => exact False.elim hq'
    | cont => exact False.elim hq'
def initB (msg : Str) (j : Nat) (p1 p2 p3 p4 p5 p6 : Pos) : List Stmt := [.Expr (.Call (.Attribute (.Name "ValueError" p1) "__init__" p2) [.Name "self" p3, .Constant (.str msg) j p4] [] p5) p6]
theorem init0_ok {P : Program} {w : World} {K : PySem.W.Frag} {mg : Str → Option Value} {base : Heap} {qual : Str} {params : Arguments} {scope : Scope} {f : Addr} {fd : FuncData} {msg : Str} {j : Nat} {p1 p2 p3 p4 p5 p6 : Pos} (F1 : FunD K "__init__" qual params (initB msg j p1 p2 p3 p4 p5 p6) scope [] [] f fd)
    (S0 : FnScope ["self"] ["self"] scope) (hg : scope.names.lookup ("ValueError" : Str) = some .globalImplicit) (hl : scope.names.lookup ("self" : Str) = some .local) (hm : mg "ValueError" = none) {pl : Env → Sem Bool}
    (hev : ∀ env : Env, eval (.Call (.Attribute (.Name "ValueError" p1) "__init__" p2) [.Name "self" p3, .Constant (.str msg) j p4] [] p5) env = (do
      let ov ← eval (.Name "ValueError" p1) env
      standAt p2.atName
      let (f, first) ← holding [ov] (getMethod ov "__init__" (pl env))
      callWith p5 f first (backTo p5 (starEach [.Name "self" p3, .Constant (.str msg) j p4] env)) (backToKw p5 (keywordEach [] env))))
    (vV : PySem.W.findCls K (.type "ValueError") (.type "type") "__init__" = some (.val (.builtin "ValueError.__init__"))) : FnOk P w K mg base (L2.CX P w) 1 f fd ["self"] (spI0 K) := by
  refine F1.ok S0 (fun vs H Q E ⟨a, C, e, _⟩ => by rw [e]; rfl) (fun cdv A outer s H vs Q E hr ⟨a, C, e, T, ha, q⟩ => ⟨_, PSs.nox (pss_one (ps_expr (pe_veinit hg hm vV (pa_cons (pe_var (i := 0) rfl (.inl hl)) (pa_cons pe_str pa_nil)) (hev _)))), ?_⟩)
  subst e
  exact ⟨_, rfl, a, C, [.str msg], rfl, by simp, T, ha, q⟩
end
end L2.MP
namespace L2.MP
open PySem PySem.Spec PyProof.Rows
/-- what such an __init__ does -/
def spIF (K : PySem.W.Frag) (fs : List Str) : Sp := fun vs H Q _ => ∃ (a C : Addr) (ws : List V), vs = .ref a :: ws ∧ ws.length = fs.length ∧ OexC K C ∧ (∀ f ∈ fs, PySem.W.findIn K (.ref C) f = some none) ∧ H a = some (exo a C none) ∧
  ∀ (dx : Addr) (H2 : Hp), H dx = none → dx ≠ a → H2 a = some (exo a C (some dx)) → H2 dx = some (exd dx (fs.zip ws).reverse) → (∀ b, b ≠ a → b ≠ dx → H2 b = H b) → Q .non H2
section
variable {X : Cx}
theorem pmkF {x : Str} {C fI : Addr} {k : Nat} {fd : FuncData} {ps fs : List Str} {p pos : Pos} {e : Expr} {es : List Expr} {ta : TA} {ec : EC} {c : Nat} (hec : ec c = .ref C) (hne : fs ≠ []) (hlen : fs.length ≤ 1000) (T : OexC X.K C) (iC : PySem.W.findIn X.K (.ref C) "__init__" = some (some (.ref fI))) (tI : PySem.W.typeIn X.K (.ref fI) = some (.type "function"))
    (F1 : FnOk X.prog X.w X.K X.mg X.base (L2.CX X.prog X.w) k fI fd ps (spIF X.K fs)) (hno : ∀ f ∈ fs, PySem.W.findIn X.K (.ref C) f = some none) (hr : Room (k + 1) X.A) (hb : Binds X.K fd ps []) (hg : L2.Gl X x) (hm : X.mg x = some (.ref C)) (hdb : (x == ("__debug__" : Str)) = false) (ha : PA X (e :: es) ta)
    (he : starEach (e :: es) X.env = (false, eval e X.env) :: starEach es X.env) (hpl : (backTo pos (starEach es X.env)).any (·.1) = false) : PMk X (.Call (.Name x p) (e :: es) [] pos) (tMkX ec fs c ta) := by
  have hx : Passes (L2.CX X.prog X.w) X (fun _ _ _ => False) := fun pins σ H s u s' _ ⟨_, _, _, _, _, _, _, _, _, _, _, _, z⟩ => False.elim z
  have main := pmk_oex (pos := pos) (p := p) T iC tI F1 hr hb .nil hx hg hm (pa_am (X := X) (es := e :: es)) hdb he hpl
  intro pins s σ H Q I h
  have hA := AM.of ha h
  refine main pins s σ H Q I fun pos pins s I => thn (hA pos pins s I) ?_
  rintro us s1 ⟨vs, H1, I1, r, hl, q⟩
  refine ⟨vs, H1, I1, r, by omega, fun a hn => ?_⟩
  have hq : ∀ d, H1 d = none → Q (ec c) (some d) (upd H1 d (.xd (fs.zip vs).reverse)) := by
    rcases q with ⟨z, _⟩ | ⟨_, q⟩
    · exact absurd z hne
    · exact q
  refine ⟨a, C, vs, by simp, hl, T, hno, upd_same, fun dx H2 h1 h2 h3 h4 h5 => ⟨rfl, dx, _, h3, h4, ?_, ?_⟩⟩
  · rwa [upd_ne h2] at h1
  · have hd1 : H1 dx = none := by rwa [upd_ne h2] at h1
    have e : upd (del H2 a) dx (.xd (fs.zip vs).reverse) = upd H1 dx (.xd (fs.zip vs).reverse) := by
      funext b
      by_cases hbd : b = dx
      · rw [hbd, upd_same, upd_same]
      · rw [upd_ne hbd, upd_ne hbd]
        by_cases hba : b = a
        · rw [hba, del_same, hn]
        · rw [del_ne hba, h5 b hba hbd, upd_ne hba]
    rw [e, ← hec]
    exact hq dx hd1
end
end L2.MP
namespace L2.MP
open PySem PySem.Spec PyProof.Rows
/-- the objects that the module's names reach, and the table of modules -/
def asX (g : Addr → Option Obj) (n : Nat) : List Addr := He.asD g n ++ [sysModules]
/-- a dict of the module: its name, its keys -/
abbrev Tb : Type := Str × List Str
def obsXG (n : Nat) (fa : List He.Fa) (fn : List He.DefD) (xk : PySem.W.Frag → Bool) (ts : List Tb) (g : Addr → Option Obj) : (Bool × List (Option (List (Option (Str × Int))))) × He.AlD := ((xk (He.frG g (asX g n)), ts.map fun t => He.dicW (He.frG g (asX g n)) (He.ga (He.frG g (asX g n)) t.1)), He.obsD fa fn (He.frG g (asX g n)))
def TabsOk (ts : List Tb) (w : World) (K : PySem.W.Frag) : Prop := ∀ t ∈ ts, He.dicW K (He.ga K t.1) = some (He.keysIn w.params t.2)
theorem tabs_of {ts : List Tb} {w : World} {K : PySem.W.Frag} (h : (ts.map fun t => He.dicW K (He.ga K t.1)) = ts.map fun t => some (He.keysIn w.params t.2)) : TabsOk ts w K := by
  intro t ht
  obtain ⟨i, hi⟩ := List.mem_iff_getElem?.mp ht
  have e2 : (ts.map fun t => He.dicW K (He.ga K t.1))[i]? = (ts.map fun t => some (He.keysIn w.params t.2))[i]? := by rw [h]
  rw [List.getElem?_map, List.getElem?_map, hi] at e2
  exact Option.some.inj e2
def hookX (n : Nat) (fa : List He.Fa) (fn : List He.DefD) (xk : PySem.W.Frag → Bool) (ts : List Tb) : PySem.W.Hook where
  α := (Bool × List (Option (List (Option (Str × Int))))) × He.AlD
  obs := fun s => obsXG n fa fn xk ts s.heap.get?
  val := fun w => ((true, ts.map fun t => some (He.keysIn w.params t.2)), He.valD fn)
  says := fun w h => ∃ K : PySem.W.Frag, K.In h ∧ He.SaysD fa fn K ∧ xk K = true ∧ TabsOk ts w K
  of := fun _ s e => ⟨He.frG s.heap.get? (asX s.heap.get? n), He.frG_in, congrArg Prod.snd e, congrArg (fun z => z.1.1) e, tabs_of (congrArg (fun z => z.1.2) e)⟩
  keeps := fun _ _ _ ⟨K, hK, c, x, t⟩ k => ⟨K, PySem.W.Frag.In.keeps hK k, c, x, t⟩
theorem obsXG_eq {n : Nat} {fa : List He.Fa} {fn : List He.DefD} {xk : PySem.W.Frag → Bool} {ts : List Tb} {g : Addr → Option Obj} {s : Shared} (h : ∀ a, g a = s.heap.get? a) : obsXG n fa fn xk ts g = (hookX n fa fn xk ts).obs s := by
  have e : g = s.heap.get? := funext h
  rw [e] <;> rfl
/-- the start of a law: no nodes, the script -/
def rc0 (B : RB) (H : Hp) : RC := ⟨B, H, fun _ => 0, [], fun _ => False⟩
theorem rep0 (B : RB) (H : Hp) : Rep (rc0 B H) := ⟨fun i j hi _ _ => absurd hi (Nat.not_lt_zero _), fun i nd h => by simp [rc0] at h, fun i nd h => by simp [rc0] at h, fun a h => False.elim h⟩
theorem scr0 {B : RB} {H : Hp} {a : Addr} {ns : List Int} (h : SqL B.K H a (ns.map V.int)) : RVs (rc0 B H) [.scr ns] [.ref a] := by
  refine RVs.cons ?_ RVs.nil
  simp only [RV]
  refine ⟨a, rfl, ?_⟩
  rcases h with h | h
  · refine .inl ⟨h, ?_⟩
    rintro (⟨i, xs, q, _⟩ | q)
    · simp [rc0] at q
    · exact q
  · exact .inr h
/-- the law's promise from the evaluator's answer -/
theorem sp0 {ec : EC} {K : PySem.W.Frag} {fl : FL} {g : List D → Hs → MP.R D} {H : Hp} {a : Addr} {ns : List Int} (hS : SqL K H a (ns.map V.int)) {h : Hs} (hg : g [.scr ns] [] = .ok (.bl true) h) :
    spOf ec K fl 1 g [.ref a] H (fun v _ => v = .bl true) fun _ _ _ => False := by
  refine ⟨rc0 ⟨K, fl, none⟩ H, [.scr ns], rfl, rfl, rfl, rfl, rep0 _ _, scr0 hS, rfl, ?_⟩
  show GV ec _ [] _ _ (g [.scr ns] [])
  rw [hg]
  exact fun r' b n e R q => rv_bl q
def oexB (K : PySem.W.Frag) (C : Addr) : Bool := (match K.lookup C with
  | some ⟨.type "type", _, .cls cd, sl⟩ => (match cd.mro, sl.toList with
    | .ref C' :: bm, [_, _, _, _, some (.builtin n), _] => C' == C && n == "ValueError.__new__" && !cd.hasDel && cd.hasDict && PySem.HandSPX.refsVE bm
    | _, _ => false)
  | _ => false) && He.eqO (PySem.W.findIn K (.ref C) "__setattr__") (some (some (.builtin "object.__setattr__"))) && decide (PySem.W.subIn K (.ref C) (.type "BaseException") = some true) && decide (PySem.W.typeIn K (.ref C) = some (.type "type")) && PySem.W.keepIn K (.ref C)
theorem oexB_ok {K : PySem.W.Frag} {C : Addr} (h : oexB K C = true) : OexC K C := by
  unfold oexB at h
  simp only [Bool.and_eq_true] at h
  obtain ⟨⟨⟨⟨q, h1⟩, h2⟩, h3⟩, h4⟩ := h
  refine ⟨?_, He.eqO_ok h1, of_decide_eq_true h2, of_decide_eq_true h3, h4⟩
  split at q
  · rename_i dd cd sl ho
    split at q
    · rename_i C' bm k0 k1 k2 k3 n k5 hm hs
      simp only [Bool.and_eq_true, beq_iff_eq, Bool.not_eq_true'] at q
      obtain ⟨⟨⟨⟨rfl, rfl⟩, hdel⟩, hdi⟩, hbm⟩ := q
      obtain ⟨nm, bs, mro, ns, qn, hd, sn, sub, ab, col, del⟩ := cd
      dsimp only at hm hdel hdi
      subst hm hdel hdi
      have hsl : sl = #[k0, k1, k2, k3, some (.builtin "ValueError.__new__"), k5] := by
        obtain ⟨l⟩ := sl
        simp only at hs
        rw [hs]
      subst hsl
      exact ⟨nm, qn, ns, bs, bm, sn, sub, ab, col, dd, k0, k1, k2, k3, k5, ho, hbm⟩
    · cases q
  · cases q
def excB (K : PySem.W.Frag) (D : Addr) : Bool := He.eqO (PySem.W.findIn K (.ref D) "__getattribute__") (some (some (.builtin "BaseException.__getattribute__"))) && He.eqO (PySem.W.findIn K (.ref D) "__getattr__") (some none) && decide (PySem.W.subIn K (.ref D) (.type "BaseException") = some true) && PySem.W.hasDictIn K D &&
  He.eqO (PySem.W.findIn K (.ref D) "__class__") (some (some (.builtin "object.__class__"))) && He.eqO (PySem.W.specialIn K (.builtin "object.__class__") "__get__") (some (some (.builtin "getset_descriptor.__get__"))) && decide (PySem.W.takesIn K (.builtin "object.__class__") = some true) && decide (PySem.W.mroIn K D (.type "object") = some true)
theorem excB_ok {K : PySem.W.Frag} {D : Addr} (h : excB K D = true) : ExcC K D := by
  unfold excB at h
  simp only [Bool.and_eq_true] at h
  obtain ⟨⟨⟨⟨⟨⟨⟨h1, h2⟩, h3⟩, h4⟩, h5⟩, h6⟩, h7⟩, h8⟩ := h
  exact ⟨He.eqO_ok h1, He.eqO_ok h2, of_decide_eq_true h3, h4, He.eqO_ok h5, He.eqO_ok h6, of_decide_eq_true h7, of_decide_eq_true h8⟩
end L2.MP
namespace L2.MP
open PySem PySem.Spec PyProof.Rows
def biL : List Str := ["len", "tuple", "list", "all", "any", "sum", "max", "min", "isinstance", "range", "enumerate", "zip", "int", "bool", "str", "dict", "repr", "sorted", "ValueError", "KeyError", "OverflowError"]
theorem biN_mem {x : Str} (h : biN x = true) : x ∈ biL := by
  unfold biN at h
  rw [Bool.or_eq_true] at h
  rcases h with h | h
  · unfold bi? at h
    repeat' split at h
    all_goals first | (cases h; done) | skip
    all_goals subst_vars
    all_goals decide +kernel
  · simp only [memS, Bool.or_eq_true, decide_eq_true_eq, Bool.or_false] at h
    rcases h with h | h | h | h | h | h | h | h | h | h | h | h | h | h <;> subst h <;> decide +kernel
def excVB : List String := ["ValueError", "KeyError", "OverflowError"]
def xkB (A : List Str) (Bs : List String) (Z : List Str) (fls : List (List (List Nat))) (K : PySem.W.Frag) : Bool := (Z.all fun x => oexB K (He.ga K x) && He.eqO (PySem.W.findIn K (.ref (He.ga K x)) "__init__") (some (some (.ref (He.ma K (He.ga K x) "__init__")))) && decide (PySem.W.typeIn K (.ref (He.ma K (He.ga K x) "__init__")) = some (.type "function"))) &&
  (A.all fun x => excB K (He.ga K x)) &&
  (A.all fun x => A.all fun y => decide (PySem.W.exmOne K (.ref (He.ga K x)) (.ref (He.ga K y)) = some (decide (x = y))) && decide (PySem.W.kitOne K (.ref (He.ga K x)) (.ref (He.ga K y)) = some (decide (x = y)))) &&
  ((A.zip Bs).all fun q => excVB.all fun t => decide (PySem.W.kitOne K (.ref (He.ga K q.1)) (.type t) = some (q.2 == t))) &&
  (biL.all fun x => He.eqO (PySem.W.nsIn K mainGlobals x) (some none)) &&
  ((A.zip fls).all fun q => q.2.all fun n => He.eqO (PySem.W.findIn K (.ref (He.ga K q.1)) (⟨n.toArray⟩ : Str)) (some none)) &&
  (match K.lookup sysModules with | some o => decide (o.cls = .type "dict") | none => false) &&
  (match PySem.W.findCls K (.type "ValueError") (.type "type") "__init__" with | some (.val (.builtin "ValueError.__init__")) => true | _ => false)
def ecOf (A : List Str) (K : PySem.W.Frag) : EC := fun c => match A[c]? with
  | some x => .ref (He.ga K x)
  | none => .none
theorem nd_ix {A : List Str} (hn : A.Nodup) {c c' : Nat} {x x' : Str} (h : A[c]? = some x) (h' : A[c']? = some x') : (x = x') ↔ c = c' := by
  constructor
  · rintro rfl
    obtain ⟨h1, e1⟩ := List.getElem?_eq_some_iff.mp h
    obtain ⟨h2, e2⟩ := List.getElem?_eq_some_iff.mp h'
    have pw := List.pairwise_iff_getElem.mp hn
    rcases Nat.lt_trichotomy c c' with hl | hl | hl
    · exact absurd (e1.trans e2.symm) (pw c c' h1 h2 hl)
    · exact hl
    · exact absurd (e2.trans e1.symm) (pw c' c h2 h1 hl)
  · rintro rfl
    rw [h] at h'
    exact Option.some.inj h'
theorem wf0_of {cf : Cf} {G : Gl} {A Z : List Str} {P : Program} {w : World} {K : PySem.W.Frag} {fl : FL} {h : Heap} {mg : Str → Option Value} {base : Heap} (XK : K.In h) (GK : h.Ns mainGlobals mg) (hx : xkB A G.exb Z G.fls K = true) (hA : cf.exs = A) (hn : A.Nodup) (hl : A.length = G.exb.length)
    (hd : ∀ x ∈ A, (x == ("__debug__" : Str)) = false) (hglo : ∀ x ∈ A, mg x = some (.ref (He.ga K x)))
    (hgl : ∀ (i : Nat) (x : Str) (d : D), cf.gls[i]? = some x → G.gls[i]? = some d → (x == ("__debug__" : Str)) = false ∧ ∃ v u, mg x = some u ∧ RelV v u ∧ ∀ r : RC, r.B.K = K → RV r d v)
    (hfl : ∀ (c : Nat) (x : Str), cf.exs[c]? = some x → G.flc[c]? = some (fl c).length)
    (hgd : ∀ (i : Nat) (x : Str), cf.gds[i]? = some x → ∃ p, G.gds[i]? = some p ∧ (x == ("__debug__" : Str)) = false ∧ ∃ a, mg x = some (.ref a) ∧ GdOk K w a p)
    (hars : ∀ (c m : Nat), cf.ars[c]? = some (some m) → (fl c).length = m)
    (hfls : ∀ (c : Nat) (x : Str), cf.exs[c]? = some x → ∃ ns, G.fls[c]? = some ns ∧ fl c = ns.map (fun n => (⟨n.toArray⟩ : Str)) ∧ ns.Nodup)
    (hmk : ∀ (X : Cx), X.prog = P → X.w = w → X.K = K → X.mg = mg → X.base = base → X.calm = true → Room 3 X.A → ∀ (c : Nat) (x : Str) (m : Nat) (p pos : Pos), cf.exs[c]? = some x → cf.ars[c]? = some (some m) → L2.Gl X x → MkOk (ecOf A K) fl X c x m p pos) :
    WF0 cf G (ecOf A K) P w K fl mg base := by
  unfold xkB at hx
  simp only [Bool.and_eq_true] at hx
  obtain ⟨⟨⟨⟨⟨⟨⟨x1, x2⟩, x3⟩, x4⟩, x5⟩, xf⟩, xs⟩, x6⟩ := hx
  have ecx : ∀ {c : Nat} {x : Str}, cf.exs[c]? = some x → ecOf A K c = .ref (He.ga K x) ∧ x ∈ A := fun {c x} hc => by
    rw [hA] at hc
    exact ⟨by unfold ecOf; rw [hc], List.mem_of_getElem? hc⟩
  have pair : ∀ {c c' : Nat} {x x' : Str}, cf.exs[c]? = some x → cf.exs[c']? = some x' → PySem.W.exmOne K (ecOf A K c) (ecOf A K c') = some (decide (c = c')) ∧ PySem.W.kitOne K (ecOf A K c) (ecOf A K c') = some (c == c') := fun {c c' x x'} h1 h2 => by
    obtain ⟨e1, m1⟩ := ecx h1
    obtain ⟨e2, m2⟩ := ecx h2
    have q := List.all_eq_true.mp (List.all_eq_true.mp x3 x m1) x' m2
    rw [Bool.and_eq_true] at q
    have iff := nd_ix hn (by rw [← hA]; exact h1) (by rw [← hA]; exact h2)
    rw [e1, e2, of_decide_eq_true q.1, of_decide_eq_true q.2]
    have hb : (c == c') = decide (c = c') := Bool.beq_eq_decide_eq c c'
    rw [hb]
    simp only [iff]
    exact ⟨trivial, trivial⟩
  refine ⟨hgl, fun x hb _ _ => ?_, fun c x hc => ?_, hmk, hars, hfls, fun c x hc a ha f hf => ?_, fun c hc => ?_, hfl, fun c x hc => ⟨fun a ha => ?_, fun c' x' hc' => (pair hc hc').2, fun s t hs ht => ?_⟩, ?_, fun c c' x x' h1 h2 => (pair h1 h2).1, hgd⟩
  · exact PySem.W.mg_none_of XK GK (He.eqO_ok (List.all_eq_true.mp x5 x (biN_mem hb)))
  · obtain ⟨e1, m1⟩ := ecx hc
    exact ⟨hd x m1, _, hglo x m1, e1⟩
  · obtain ⟨e1, m1⟩ := ecx hc
    rw [e1] at ha
    cases ha
    obtain ⟨ns, h1, h2, _⟩ := hfls c x hc
    rw [h2] at hf
    obtain ⟨n, hn1, rfl⟩ := List.mem_map.mp hf
    have hz : (A.zip G.fls)[c]? = some (x, ns) := by
      rw [hA] at hc
      rw [List.getElem?_zip_eq_some]
      exact ⟨hc, h1⟩
    exact He.eqO_ok (List.all_eq_true.mp (List.all_eq_true.mp xf (x, ns) (List.mem_of_getElem? hz)) n hn1)
  · rw [← hl] at hc
    exact ⟨A[c], by rw [hA]; exact List.getElem?_eq_getElem hc⟩
  · obtain ⟨e1, m1⟩ := ecx hc
    rw [e1] at ha
    cases ha
    exact excB_ok (List.all_eq_true.mp x2 x m1)
  · obtain ⟨e1, m1⟩ := ecx hc
    have hz : (A.zip G.exb)[c]? = some (x, t) := by
      rw [hA] at hc
      rw [List.getElem?_zip_eq_some]
      exact ⟨hc, ht⟩
    have q := List.all_eq_true.mp x4 (x, t) (List.mem_of_getElem? hz)
    have hs2 : s ∈ excVB := by
      rcases hs with rfl | rfl | rfl <;> decide
    rw [e1]
    exact of_decide_eq_true (List.all_eq_true.mp q s hs2)
  · cases q : K.lookup sysModules with
    | none => rw [q] at xs; cases xs
    | some o => rw [q] at xs; exact ⟨o, rfl, of_decide_eq_true xs⟩
end L2.MP
namespace L2.MP
open PySem PySem.Spec PyProof.Rows
/-- what the __init__ of a class with the fields fs does -/
def spIn (K : PySem.W.Frag) (fs : List Str) : Sp := match fs with
  | [] => spI0 K
  | f :: fs => spIF K (f :: fs)
/-- a class of Z with its __init__ -/
def ZOk (K : PySem.W.Frag) (mg : Str → Option Value) (x : Str) (fs : List Str) : Prop := fs.length ≤ 1000 ∧ ∃ (fd : FuncData) (ps : List Str), Binds K fd ps [] ∧ ∀ (P : Program) (w : World) (base : Heap), mg "ValueError" = none →
  PySem.W.findCls K (.type "ValueError") (.type "type") "__init__" = some (.val (.builtin "ValueError.__init__")) → FnOk P w K mg base (L2.CX P w) 1 (He.ma K (He.ga K x) "__init__") fd ps (spIn K fs)
theorem mk_z {cf : Cf} {A : List Str} {Bs : List String} {Z : List Str} {fls : List (List (List Nat))} {P : Program} {w : World} {K : PySem.W.Frag} {fl : FL} {h : Heap} {mg : Str → Option Value} {base : Heap} (XK : K.In h) (GK : h.Ns mainGlobals mg) (hx : xkB A Bs Z fls K = true) (hA : cf.exs = A)
    (hd : ∀ x ∈ A, (x == ("__debug__" : Str)) = false) (hglo : ∀ x ∈ A, mg x = some (.ref (He.ga K x))) (hars : ∀ (c m : Nat), cf.ars[c]? = some (some m) → (fl c).length = m)
    (hZ : ∀ (c : Nat) (x : Str) (m : Nat), cf.exs[c]? = some x → cf.ars[c]? = some (some m) → x ∈ Z ∧ ZOk K mg x (fl c))
    (hno : ∀ (c : Nat) (x : Str), cf.exs[c]? = some x → ∀ f ∈ fl c, PySem.W.findIn K (.ref (He.ga K x)) f = some none)
    (X : Cx) (a1 : X.prog = P) (a2 : X.w = w) (a3 : X.K = K) (a4 : X.mg = mg) (a5 : X.base = base) (hc : X.calm = true) (hr : Room 3 X.A) (c : Nat) (x : Str) (m : Nat) (p pos : Pos) (hcx : cf.exs[c]? = some x) (har : cf.ars[c]? = some (some m)) (hg : L2.Gl X x) : MkOk (ecOf A K) fl X c x m p pos := by
  have hlen := hars c m har
  obtain ⟨hz, h1000, fd, ps, hb, hF⟩ := hZ c x m hcx har
  have hno := hno c x hcx
  unfold xkB at hx
  simp only [Bool.and_eq_true] at hx
  obtain ⟨⟨⟨⟨⟨⟨⟨x1, x2⟩, x3⟩, x4⟩, x5⟩, xf⟩, xs⟩, x6⟩ := hx
  subst a1 a2 a3 a4 a5
  have z := List.all_eq_true.mp x1 x hz
  simp only [Bool.and_eq_true] at z
  obtain ⟨⟨z1, z2⟩, z3⟩ := z
  have hve : X.mg ("ValueError" : Str) = none := PySem.W.mg_none_of XK GK (He.eqO_ok (List.all_eq_true.mp x5 _ (by decide +kernel)))
  have vV : PySem.W.findCls X.K (.type "ValueError") (.type "type") "__init__" = some (.val (.builtin "ValueError.__init__")) := by
    split at x6
    · assumption
    · cases x6
  have F2 := hF X.prog X.w X.base hve vV
  have m1 : x ∈ A := by rw [← hA]; exact List.mem_of_getElem? hcx
  have ece : ecOf A X.K c = .ref (He.ga X.K x) := by
    rw [hA] at hcx
    unfold ecOf
    rw [hcx]
  refine ⟨fun h0 => ?_, fun hn e es ta ha he hpl => ?_⟩
  · have hf : fl c = [] := List.length_eq_zero_iff.mp (hlen.trans h0)
    rw [hf] at F2
    intro pins s σ H Q I ⟨_, hq⟩
    rcases hq with ⟨_, hq⟩ | ⟨hne, _⟩
    · refine pmk0 (oexB_ok z1) (He.eqO_ok z2) (of_decide_eq_true z3) F2 (Room.down hr (by omega)) hb hg (hglo x m1) (hd x m1) pins s σ H Q I ?_
      rw [← ece]
      exact hq
    · exact absurd hf hne
  · have hf : fl c ≠ [] := fun z => hn (by rw [← hlen, z]; rfl)
    have F3 : FnOk X.prog X.w X.K X.mg X.base (L2.CX X.prog X.w) 1 (He.ma X.K (He.ga X.K x) "__init__") fd ps (spIF X.K (fl c)) := by
      cases q : fl c with
      | nil => exact absurd q hf
      | cons f fs =>
        rw [q] at F2
        exact F2
    exact pmkF ece hf h1000 (oexB_ok z1) (He.eqO_ok z2) (of_decide_eq_true z3) F3 hno (Room.down hr (by omega)) hb hg (hglo x m1) (hd x m1) ha he hpl
end L2.MP
namespace L2.MP
open PySem PySem.Spec PyProof.Rows
def allB {α β : Type} (f : α → β → Bool) : List α → List β → Bool
  | [], [] => true
  | x :: xs, y :: ys => f x y && allB f xs ys
  | _, _ => false
def rvB (K : PySem.W.Frag) : Nat → D → Value → Bool
  | 0, _, _ => false
  | n + 1, d, u => match d, u with
    | .non, .none => true
    | .bl b, .bool c => b == c
    | .int i, .int j _ => decide (j = i)
    | .str s, .str z _ => decide (z = ⟨s.toArray⟩) && okB s
    | .tup xs, .ref a => (match K.lookup a with
      | some ⟨.type c, _, .seq its _, _⟩ => decide (c = "tuple") && (decide (its.size ≤ sizeLine) && allB (rvB K n) xs its.toList)
      | _ => false)
    | _, _ => false
theorem rvB_ok {K : PySem.W.Frag} : ∀ {n : Nat} {d : D} {u : Value}, rvB K n d u = true → ∃ v, RelV v u ∧ ∀ r : RC, r.B.K = K → RV r d v
  | 0, _, _, h => by cases h
  | n + 1, d, u, h => by
    have go : ∀ (xs : List D) (us : List Value), allB (rvB K n) xs us = true → ∃ vs, Vals vs us ∧ ∀ r : RC, r.B.K = K → RVs r xs vs := fun xs => by
      induction xs with
      | nil =>
        intro us h
        cases us with
        | nil => exact ⟨[], .nil, fun r _ => RVs.nil⟩
        | cons => cases h
      | cons x xs ih =>
        intro us h
        cases us with
        | nil => cases h
        | cons u us =>
          obtain ⟨h1, h2⟩ := He.ba (show (rvB K n x u && allB (rvB K n) xs us) = true from h)
          obtain ⟨v, r1, q1⟩ := rvB_ok h1
          obtain ⟨vs, r2, q2⟩ := ih us h2
          exact ⟨v :: vs, .cons r1 r2, fun r e => RVs.cons (q1 r e) (q2 r e)⟩
    cases d with
    | non => cases u with
      | none => exact ⟨.non, rfl, fun r _ => mk_non⟩
      | _ => cases h
    | bl b => cases u with
      | bool c =>
        have e : b = c := eq_of_beq (show (b == c) = true from h)
        subst e
        exact ⟨.bl b, rfl, fun r _ => mk_bl _⟩
      | _ => cases h
    | int i => cases u with
      | int j t =>
        have e : j = i := of_decide_eq_true h
        subst e
        exact ⟨.int j, ⟨t, rfl⟩, fun r _ => mk_int _⟩
      | _ => cases h
    | str s => cases u with
      | str z t =>
        obtain ⟨h1, h2⟩ := He.ba (show (decide (z = ⟨s.toArray⟩) && okB s) = true from h)
        have e := of_decide_eq_true h1
        subst e
        exact ⟨.str ⟨s.toArray⟩, ⟨t, rfl⟩, fun r _ => mk_str (okB_ok h2)⟩
      | _ => cases h
    | tup xs => cases u with
      | ref a =>
        have h1 : (match K.lookup a with
          | some ⟨.type c, _, .seq its _, _⟩ => decide (c = "tuple") && (decide (its.size ≤ sizeLine) && allB (rvB K n) xs its.toList)
          | _ => false) = true := h
        cases q : K.lookup a with
        | none => rw [q] at h1; cases h1
        | some o =>
          obtain ⟨oc, od, dt, osl⟩ := o
          rw [q] at h1
          cases oc with
          | type c =>
            cases dt with
            | seq its m =>
              obtain ⟨h2, h3⟩ := He.ba (show (decide (c = "tuple") && (decide (its.size ≤ sizeLine) && allB (rvB K n) xs its.toList)) = true from h1)
              obtain ⟨h4, h5⟩ := He.ba h3
              obtain ⟨vs, r2, q2⟩ := go xs _ h5
              refine ⟨.ref a, rfl, fun r e => ?_⟩
              simp only [RV]
              exact ⟨a, vs, rfl, .inr ⟨_, its, m, by rw [e]; exact q, congrArg Value.type (of_decide_eq_true h2), rfl, of_decide_eq_true h4, r2⟩, q2 r e⟩
            | _ => cases h1
          | _ => cases dt <;> cases h1
      | _ => cases h
    | _ => cases u <;> cases h
/-- the module's constants -/
def glsB (ns : List Str) (ds : List D) (K : PySem.W.Frag) : Bool := (ns.zip ds).all fun q => !(q.1 == ("__debug__" : Str)) && (match PySem.W.nsIn K mainGlobals q.1 with
  | some (some u) => rvB K 10 q.2 u
  | _ => false)
theorem glsB_ok {ns : List Str} {ds : List D} {K : PySem.W.Frag} {h : Heap} {mg : Str → Option Value} (XK : K.In h) (GK : h.Ns mainGlobals mg) (hg : glsB ns ds K = true) :
    ∀ (i : Nat) (x : Str) (d : D), ns[i]? = some x → ds[i]? = some d → (x == ("__debug__" : Str)) = false ∧ ∃ v u, mg x = some u ∧ RelV v u ∧ ∀ r : RC, r.B.K = K → RV r d v := fun i x d hx hd => by
  have hz : (ns.zip ds)[i]? = some (x, d) := by
    rw [List.getElem?_zip_eq_some]
    exact ⟨hx, hd⟩
  obtain ⟨h1, h2⟩ := He.ba (List.all_eq_true.mp hg (x, d) (List.mem_of_getElem? hz))
  refine ⟨by simpa using h1, ?_⟩
  cases e : PySem.W.nsIn K mainGlobals x with
  | none => rw [e] at h2; cases h2
  | some o =>
    rw [e] at h2
    cases o with
    | none => cases h2
    | some u =>
      obtain ⟨v, r1, q1⟩ := rvB_ok (show rvB K 10 d u = true from h2)
      exact ⟨v, u, PySem.W.mg_of XK GK e, r1, q1⟩
def gdsB (ns : List Str) (gs : List (List (List Nat) × List D)) (K : PySem.W.Frag) : Bool := (ns.zip gs).all fun q => !(q.1 == ("__debug__" : Str)) && (He.eqO (PySem.W.nsIn K mainGlobals q.1) (some (some (.ref (He.ga K q.1)))) && (q.2.1.zip q.2.2).all fun kv => match PySem.W.nsIn K (He.ga K q.1) (⟨kv.1.toArray⟩ : Str) with
  | some (some u) => rvB K 10 kv.2 u
  | _ => false)
def tsOf (ns : List Str) (gs : List (List (List Nat) × List D)) : List Tb := (ns.zip gs).map fun q => (q.1, q.2.1.map fun k => (⟨k.toArray⟩ : Str))
theorem getS_mem {s : List Nat} {d : D} : ∀ {ks : List (List Nat)} {vs : List D}, getS s ks vs = some d → (s, d) ∈ ks.zip vs
  | [], _, h => by simp [getS] at h
  | _ :: _, [], h => by simp [getS] at h
  | k :: ks, v :: vs, h => by
    simp only [getS] at h
    split at h
    · rename_i e
      cases h
      rw [e]
      exact List.mem_cons_self
    · exact List.mem_cons_of_mem _ (getS_mem h)
theorem find_keys {P : Params} {s : Str} : ∀ {l : List DictEntry} {ks : List Str}, l.map He.keyOf = He.keysIn P ks → (l.find? (·.key.isStr s)).isSome = decide (s ∈ ks) ∧ l.any (·.refKey) = false
  | [], [], _ => ⟨rfl, rfl⟩
  | [], _ :: _, h => by cases h
  | _ :: _, [], h => by cases h
  | e :: l, k :: ks, h => by
    have h1 : He.keyOf e :: l.map He.keyOf = some (k, PyData.keyHash P k) :: He.keysIn P ks := h
    injection h1 with h2 h3
    obtain ⟨q1, q2⟩ := find_keys (s := s) h3
    have h4 : ∃ t, e.key = .str k t := by
      unfold He.keyOf at h2
      split at h2
      · rename_i x t q
        have h4 := Option.some.inj h2
        obtain ⟨h5, h6⟩ := Prod.mk.inj h4
        exact ⟨t, by rw [q, h5]⟩
      · cases h2
    obtain ⟨t, h4⟩ := h4
    constructor
    · rw [List.find?_cons]
      have e1 : e.key.isStr s = decide (k = s) := by rw [h4]; exact Bool.beq_eq_decide_eq k s
      rw [e1]
      by_cases hk : k = s
      · simp [hk]
      · rw [decide_eq_false hk]
        simp only [q1, List.mem_cons]
        have : ¬ s = k := fun z => hk z.symm
        simp [this]
    · rw [List.any_cons, q2, Bool.or_false]
      unfold DictEntry.refKey
      rw [h4]
theorem gds_ok {ns : List Str} {gs : List (List (List Nat) × List D)} {K : PySem.W.Frag} {w : World} {h : Heap} {mg : Str → Option Value} (XK : K.In h) (GK : h.Ns mainGlobals mg) (hg : gdsB ns gs K = true) (hl : ns.length = gs.length) (ht : TabsOk (tsOf ns gs) w K) :
    ∀ (i : Nat) (x : Str), ns[i]? = some x → ∃ p, gs[i]? = some p ∧ (x == ("__debug__" : Str)) = false ∧ ∃ a, mg x = some (.ref a) ∧ GdOk K w a p := fun i x hx => by
  have hlt : i < gs.length := by rw [← hl]; exact get_lt hx
  have hp : gs[i]? = some gs[i] := List.getElem?_eq_getElem hlt
  have hz : (ns.zip gs)[i]? = some (x, gs[i]) := by
    rw [List.getElem?_zip_eq_some]
    exact ⟨hx, hp⟩
  have hm := List.mem_of_getElem? hz
  obtain ⟨h1, h2⟩ := He.ba (List.all_eq_true.mp hg _ hm)
  obtain ⟨h2, h3⟩ := He.ba h2
  have dw := ht _ (List.mem_map.mpr ⟨_, hm, rfl⟩)
  obtain ⟨es, n, kd⟩ := He.dicW_ok dw
  refine ⟨_, hp, by simpa using h1, _, PySem.W.mg_of XK GK (He.eqO_ok h2), ⟨es, n, kd⟩, fun s d hs => ?_, fun s => ?_⟩
  · have := List.all_eq_true.mp h3 _ (getS_mem hs)
    dsimp only at this
    split at this
    · rename_i u hu
      obtain ⟨v, r1, q1⟩ := rvB_ok this
      exact ⟨u, v, hu, r1, q1⟩
    · cases this
  · have hk : es.toList.map He.keyOf = He.keysIn w.params (gs[i].1.map fun k => (⟨k.toArray⟩ : Str)) := by
      have := dw
      unfold He.dicW at this
      simp only [kd.at_] at this
      split at this
      · exact Option.some.inj this
      · cases this
    obtain ⟨q1, q2⟩ := find_keys (s := (⟨s.toArray⟩ : Str)) hk
    have e3 : decide ((⟨s.toArray⟩ : Str) ∈ gs[i].1.map fun k => (⟨k.toArray⟩ : Str)) = decide (s ∈ gs[i].1) := by
      congr 1
      simp
    rw [e3] at q1
    unfold PySem.W.nsIn
    rw [kd.at_]
    dsimp only
    rw [q2]
    cases e : es.toList.find? (·.key.isStr (⟨s.toArray⟩ : Str)) with
    | none => rw [e] at q1; exact ⟨none, rfl, q1⟩
    | some en => rw [e] at q1; exact ⟨some en.val, rfl, q1⟩
structure InitP where
  msg : Str
  j : Nat
  p1 : Pos
  p2 : Pos
  p3 : Pos
  p4 : Pos
  p5 : Pos
  p6 : Pos
def InitP.b (q : InitP) : List Stmt := initB q.msg q.j q.p1 q.p2 q.p3 q.p4 q.p5 q.p6
def initOk (b : List Stmt) : Bool := match b with
  | [.Expr (.Call (.Attribute (.Name v p1) i p2) [.Name s p3, .Constant (.str msg) j p4] [] p5) p6] => decide (v = "ValueError") && (decide (i = "__init__") && (decide (s = "self") && decide (p2.endLine = p5.line)))
  | _ => false
theorem hev_init {msg : Str} {j : Nat} {p1 p2 p3 p4 p5 : Pos} (hl : p2.endLine = p5.line) (env : Env) : eval (.Call (.Attribute (.Name "ValueError" p1) "__init__" p2) [.Name "self" p3, .Constant (.str msg) j p4] [] p5) env = (do
      let ov ← eval (.Name "ValueError" p1) env
      standAt p2.atName
      let (f, first) ← holding [ov] (getMethod ov "__init__" (do return (← importBound (.Name "ValueError" p1) env).getD true))
      callWith p5 f first (backTo p5 (starEach [.Name "self" p3, .Constant (.str msg) j p4] env)) (backToKw p5 (keywordEach [] env))) := by
  obtain ⟨a1, a2, a3, a4⟩ := p2
  obtain ⟨b1, b2, b3, b4⟩ := p5
  simp only at hl
  subst hl
  have e : methodCallPos true (.Name "ValueError" p1) env ⟨a1, a2, a3, a4⟩ ⟨a3, b2, b3, b4⟩ = pure ⟨a3, b2, b3, b4⟩ := by
    unfold methodCallPos
    simp
  show (do
      let ov ← eval (.Name "ValueError" p1) env
      standAt (⟨a1, a2, a3, a4⟩ : Pos).atName
      let (f, first) ← holding [ov] (getMethod ov "__init__" (do return (← importBound (.Name "ValueError" p1) env).getD true))
      let cp ← methodCallPos true (.Name "ValueError" p1) env ⟨a1, a2, a3, a4⟩ ⟨a3, b2, b3, b4⟩
      callWith cp f first (backTo ⟨a3, b2, b3, b4⟩ (starEach [.Name "self" p3, .Constant (.str msg) j p4] env)) (backToKw ⟨a3, b2, b3, b4⟩ (keywordEach [] env))) = _
  rw [e]
  rfl
theorem initOk_ok {b : List Stmt} (h : initOk b = true) : ∃ (msg : Str) (j : Nat) (p1 p2 p3 p4 p5 p6 : Pos), b = initB msg j p1 p2 p3 p4 p5 p6 ∧ p2.endLine = p5.line := by
  unfold initOk at h
  split at h
  · obtain ⟨h1, h2⟩ := He.ba h
    obtain ⟨h3, h4⟩ := He.ba h2
    obtain ⟨h5, h6⟩ := He.ba h4
    have e1 := of_decide_eq_true h1
    have e2 := of_decide_eq_true h3
    have e3 := of_decide_eq_true h5
    subst e1 e2 e3
    exact ⟨_, _, _, _, _, _, _, _, rfl, of_decide_eq_true h6⟩
  · cases h
/-- a class of Z by its text -/
theorem zok0 {K : PySem.W.Frag} {mg : Str → Option Value} {x qual : Str} {params : Arguments} {body : List Stmt} {scope : Scope} {fd : FuncData} (F1 : FunD K "__init__" qual params body scope [] [] (He.fAd K (x, some "__init__")) fd) (hb : initOk body = true) (S0 : FnScope ["self"] ["self"] scope)
    (g1 : scope.names.lookup ("ValueError" : Str) = some .globalImplicit) (g2 : scope.names.lookup ("self" : Str) = some .local) (hB : Binds K fd ["self"] []) : ZOk K mg x [] := by
  obtain ⟨msg, j, p1, p2, p3, p4, p5, p6, rfl, hl⟩ := initOk_ok hb
  exact ⟨by simp, fd, ["self"], hB, fun P w base hv vV => init0_ok F1 S0 g1 g2 hv (fun env => hev_init hl env) vV⟩
end L2.MP
namespace L2.MP
open PySem PySem.Spec PyProof.Rows
/-- a law: the evaluator's answer, over a head by facts -/
theorem walk_mp {l : PySem.W.OpenLaw} {n k : Nat} {q : Program} {loose : List Str} {XP : (Str → Option Value) → Heap → Prop} {YP : World → Heap → Prop} {d : DefRec} {x : Str}
    (hn : l.most = some n) (hn2 : n ≤ sizeLine) (hdf : d.params.defaults = []) (hr : Room k callerA) {ec : PySem.W.Frag → EC} {fl : FL} {g : List D → Hs → MP.R D} (hg : ∀ ns : List Int, ns.length ≤ n → ∃ h, g [.scr ns] [] = .ok (.bl true) h)
    (F : ∀ (w : World) (mg : Str → Option Value) (fa : Addr) (h : Heap), YP w h → h.Ns mainGlobals mg → mg d.name = some (.ref fa) →
      ∃ (K : PySem.W.Frag) (fd : FuncData), K.In h ∧ (∀ (s : Shared) (u : Value), BindsTo s fd ⟨[u], []⟩ [(x, u)]) ∧
        ∀ base : Heap, K.In base → base.Ns mainGlobals mg → FnG l.prog w K mg base (L2.CX l.prog w) k fa fd [x] (spOf (ec K) K fl 1 g)) :
    PySem.W.WalkO q loose XP YP l.row.toRowW d [] (fun f vs => PySem.call f vs) := by
  refine Att.attach_call hn hdf fun w s₀ s₁ mg mb fa o pm cd doc a vs ns G Y ho hd hcd hmg hobj hints hlen hgg => ?_
  obtain ⟨K, fd, KX, hb, hF⟩ := F w mg fa _ Y G.T.g hmg
  refine law_g KX G.T.g G.T.b G.T.builtins G.T.nolimit hgg hobj hints (Nat.le_trans hlen hn2) hr hF hb (fun H hS => ?_) fun H e s' z => ?_
  · obtain ⟨h, e⟩ := hg ns hlen
    exact sp0 hS e
  · obtain ⟨_, _, _, _, _, _, _, _, _, _, _, _, z⟩ := z
    exact z
def DefsOk (cf : Cf) (K : PySem.W.Frag) (mg : Str → Option Value) : List Str → List Fn → Prop
  | [], [] => True
  | x :: xs, f :: fs => DefOk cf K mg x f ∧ DefsOk cf K mg xs fs
  | _, _ => False
theorem defs_get {cf : Cf} {K : PySem.W.Frag} {mg : Str → Option Value} : ∀ {xs : List Str} {fs : List Fn}, DefsOk cf K mg xs fs → ∀ (f : Nat) (x : Str), xs[f]? = some x → ∃ fn, fs[f]? = some fn ∧ DefOk cf K mg x fn
  | [], [], _, f, x, h => by simp at h
  | x :: xs, y :: fs, h, 0, z, e => by
    simp at e
    subst e
    exact ⟨y, rfl, h.1⟩
  | x :: xs, y :: fs, h, f + 1, z, e => by
    obtain ⟨fn, h1, h2⟩ := defs_get h.2 f z (by simpa using e)
    exact ⟨fn, by simpa using h1, h2⟩
  | [], _ :: _, h, _, _, _ => False.elim h
  | _ :: _, [], h, _, _, _ => False.elim h
theorem all_nil {α : Type} {p : α → Prop} : ∀ x ∈ ([] : List α), p x := fun x h => by simp at h
theorem all_cons {α : Type} {p : α → Prop} {a : α} {l : List α} (h : p a) (k : ∀ x ∈ l, p x) : ∀ x ∈ a :: l, p x := fun x hx => by
  rcases List.mem_cons.mp hx with rfl | hx
  · exact h
  · exact k x hx
def xkA (A : List Str) (Bs : List String) (Z : List Str) (fls : List (List (List Nat))) (ns : List Str) (ds : List D) (gn : List Str) (gs : List (List (List Nat) × List D)) (K : PySem.W.Frag) : Bool := xkB A Bs Z fls K && (glsB ns ds K && (gdsB gn gs K && A.all fun x => (He.Fa.glo x).ok K))
def flG (G : Gl) : FL := ⟨fun c => (G.fls.getD c []).map fun n => (⟨n.toArray⟩ : Str), fun _ => 0, fun _ => ⟨#[]⟩⟩
/-- what is plain of a configuration -/
def cfOk (cf : Cf) (G : Gl) (Z : List Str) : Bool := decide (cf.gds.length = G.gds.length) && (decide cf.exs.Nodup && (decide (cf.exs.length = G.exb.length) && (decide (G.fls.length = cf.exs.length) && (decide (cf.ars.length = cf.exs.length) && ((cf.exs.all fun x => !(x == ("__debug__" : Str))) &&
  (((List.range cf.exs.length).all fun c => decide (G.flc[c]? = some (G.fls.getD c []).length) && (decide (G.fls.getD c []).Nodup && (match cf.ars[c]? with
    | some (some m) => decide ((G.fls.getD c []).length = m) && decide (cf.exs.getD c "" ∈ Z)
    | _ => true)))))))))
/-- WF0, from the checks -/
theorem wf0_all {cf : Cf} {G : Gl} {Z : List Str} {P : Program} {w : World} {K : PySem.W.Frag} {h : Heap} {mg : Str → Option Value} {base : Heap} (XK : K.In h) (GK : h.Ns mainGlobals mg) (hx : xkA cf.exs G.exb Z G.fls cf.gls G.gls cf.gds G.gds K = true) (ht : TabsOk (tsOf cf.gds G.gds) w K) (hc : cfOk cf G Z = true)
    (hZ : ∀ (c : Nat) (x : Str) (m : Nat), cf.exs[c]? = some x → cf.ars[c]? = some (some m) → ZOk K mg x (flG G c)) : WF0 cf G (ecOf cf.exs K) P w K (flG G) mg base := by
  obtain ⟨h1, h2⟩ := He.ba hx
  obtain ⟨h3, h4⟩ := He.ba h2
  obtain ⟨hgb, h4⟩ := He.ba h4
  have hglo : ∀ x ∈ cf.exs, mg x = some (.ref (He.ga K x)) := fun x hx => He.glo_ok XK GK (List.all_eq_true.mp h4 x hx)
  unfold cfOk at hc
  obtain ⟨k0, hc⟩ := He.ba hc
  obtain ⟨k1, hc⟩ := He.ba hc
  obtain ⟨k2, hc⟩ := He.ba hc
  obtain ⟨k3, hc⟩ := He.ba hc
  obtain ⟨k4, hc⟩ := He.ba hc
  obtain ⟨k5, k6⟩ := He.ba hc
  have hd : ∀ x ∈ cf.exs, (x == ("__debug__" : Str)) = false := fun x hx => by simpa using List.all_eq_true.mp k5 x hx
  have l3 := of_decide_eq_true k3
  have l4 := of_decide_eq_true k4
  have at_ : ∀ c, c < cf.exs.length → G.flc[c]? = some (G.fls.getD c []).length ∧ (G.fls.getD c []).Nodup ∧ ∀ m, cf.ars[c]? = some (some m) → (G.fls.getD c []).length = m ∧ cf.exs.getD c "" ∈ Z := fun c hc => by
    have q := List.all_eq_true.mp k6 c (List.mem_range.mpr hc)
    obtain ⟨q1, q2⟩ := He.ba q
    obtain ⟨q3, q4⟩ := He.ba q2
    refine ⟨of_decide_eq_true q1, of_decide_eq_true q3, fun m hm => ?_⟩
    rw [hm] at q4
    obtain ⟨q5, q6⟩ := He.ba q4
    exact ⟨of_decide_eq_true q5, of_decide_eq_true q6⟩
  have len : ∀ c, (flG G c).length = (G.fls.getD c []).length := fun c => by simp [flG]
  have getD : ∀ {c : Nat} {x : Str}, cf.exs[c]? = some x → cf.exs.getD c "" = x := fun {c x} h => by rw [List.getD_eq_getElem?_getD, h]; rfl
  have hars : ∀ (c m : Nat), cf.ars[c]? = some (some m) → (flG G c).length = m := fun c m hm => by
    rw [len]
    exact ((at_ c (by rw [← l4]; exact get_lt hm)).2.2 m hm).1
  have hfls : ∀ (c : Nat) (x : Str), cf.exs[c]? = some x → ∃ ns, G.fls[c]? = some ns ∧ flG G c = ns.map (fun n => (⟨n.toArray⟩ : Str)) ∧ ns.Nodup := fun c x hx => by
    have hlt : c < G.fls.length := by rw [l3]; exact get_lt hx
    have e : G.fls[c]? = some G.fls[c] := List.getElem?_eq_getElem hlt
    have e2 : G.fls.getD c [] = G.fls[c] := by rw [List.getD_eq_getElem?_getD, e]; rfl
    refine ⟨_, e, by show (G.fls.getD c []).map _ = _; rw [e2], ?_⟩
    rw [← e2]
    exact (at_ c (get_lt hx)).2.1
  have hno : ∀ (c : Nat) (x : Str), cf.exs[c]? = some x → ∀ f ∈ flG G c, PySem.W.findIn K (.ref (He.ga K x)) f = some none := fun c x hx f hf => by
    have h1' := h1
    unfold xkB at h1'
    simp only [Bool.and_eq_true] at h1'
    obtain ⟨⟨⟨_, xf⟩, _⟩, _⟩ := h1'
    obtain ⟨ns, e1, e2, _⟩ := hfls c x hx
    rw [e2] at hf
    obtain ⟨n, hn1, rfl⟩ := List.mem_map.mp hf
    have hz : (cf.exs.zip G.fls)[c]? = some (x, ns) := by
      rw [List.getElem?_zip_eq_some]
      exact ⟨hx, e1⟩
    exact He.eqO_ok (List.all_eq_true.mp (List.all_eq_true.mp xf (x, ns) (List.mem_of_getElem? hz)) n hn1)
  refine wf0_of XK GK h1 rfl (of_decide_eq_true k1) (of_decide_eq_true k2) hd hglo (glsB_ok XK GK h3) (fun c x hc => by rw [len]; exact (at_ c (get_lt hc)).1) (gds_ok XK GK hgb (of_decide_eq_true k0) ht) hars hfls ?_
  exact fun X a1 a2 a3 a4 a5 hc hr c x m p pos hcx har hg => mk_z XK GK h1 rfl hd hglo hars (fun c x m hcx har => ⟨by have := ((at_ c (get_lt hcx)).2.2 m har).2; rwa [getD hcx] at this, hZ c x m hcx har⟩) hno X a1 a2 a3 a4 a5 hc hr c x m p pos hcx har hg
/-- the law's def, from the facts -/
theorem law_fn {cf : Cf} {G : Gl} {ec : EC} {P : Program} {w : World} {K : PySem.W.Frag} {fl : FL} {mg : Str → Option Value} {base : Heap} {Fs : List Fn} (w0 : WF0 cf G ec P w K fl mg base) (hcalm : cf.calm = true)
    (hF : ∀ (f : Nat) (x : Str), cf.fns[f]? = some x → ∃ fn, Fs[f]? = some fn ∧ DefOk cf K mg x fn) {n0 N lw : Nat} {qual x0 : Str} {params : Arguments} {body : List Stmt} {scope : Scope} {fa : Addr} {fd : FuncData} {Ns : List Str} {x : Str} {b : List S}
    (F1 : FunD K x0 qual params body scope [] [] fa fd) (S0 : FnScope Ns [x] scope) (hnn : ∀ y ∈ Ns, (y == ("__debug__" : Str)) = false ∧ (y == ("__classdict__" : Str)) = false) (ht : trSs cf n0 Ns scope body = some b) (hl : Fs[lw]? = some ⟨1, Ns.length, b⟩) :
    FnG P w K mg base (L2.CX P w) (N + 4) fa fd [x] (spOf ec K fl 1 (callN G Fs (N + 1) lw)) := by
  have hg : ∀ xs h, callN G Fs (N + 1) lw xs h = if xs.length = [x].length then (match evSs G (callN G Fs N) b (xs.map some ++ List.replicate (Ns.length - [x].length) none) h with
        | .ok (.rt v) _ h => .ok v h
        | .ok .nx _ h => .ok .non h
        | .exc c fs _ h => .exc c fs h
        | _ => .bad) else .bad := fun xs h => by
      simp only [callN, hl]
      try rfl
  exact def_ok (wf_all w0 hcalm hF N) hcalm F1 S0 hnn ht hg
end L2.MP
namespace L2.MP
open PySem
def okR {α : Type} (r : R α) (P : α → Hs → Prop) : Prop := match r with
  | .ok a h => P a h
  | _ => False
def okQ (q : Q) (P : F → Sl → Hs → Prop) : Prop := match q with
  | .ok f sl h => P f sl h
  | _ => False
theorem okR_ok {α : Type} {a : α} {h : Hs} {P : α → Hs → Prop} : okR (.ok a h) P = P a h := rfl
theorem okQ_ok {f : F} {sl : Sl} {h : Hs} {P : F → Sl → Hs → Prop} : okQ (.ok f sl h) P = P f sl h := rfl
theorem okR_inv {α : Type} {r : R α} {P : α → Hs → Prop} (h : okR r P) : ∃ a h', r = .ok a h' ∧ P a h' := by
  cases r with
  | ok a h' => exact ⟨a, h', rfl, h⟩
  | exc c fs h' => exact False.elim h
  | bad => exact False.elim h
theorem okR_mono {α : Type} {r : R α} {P P' : α → Hs → Prop} (h : okR r P) (k : ∀ a h', P a h' → P' a h') : okR r P' := by
  cases r with
  | ok a h' => exact k _ _ h
  | exc c fs h' => exact h
  | bad => exact h
theorem okQ_mono {q : Q} {P P' : F → Sl → Hs → Prop} (h : okQ q P) (k : ∀ f sl h', P f sl h' → P' f sl h') : okQ q P' := by
  cases q with
  | ok f sl h' => exact k _ _ _ h
  | exc c fs sl h' => exact h
  | bad => exact h
theorem okR_bind {α β : Type} {r : R α} {f : α → Hs → R β} {P : β → Hs → Prop} (h : okR r fun a h => okR (f a h) P) : okR (r.bind f) P := by
  cases r with
  | ok a h' => exact h
  | exc c fs h' => exact h
  | bad => exact h
theorem okR_q {α : Type} {r : R α} {sl : Sl} {f : α → Hs → Q} {P : F → Sl → Hs → Prop} (h : okR r fun a h => okQ (f a h) P) : okQ (r.q sl f) P := by
  cases r with
  | ok a h' => exact h
  | exc c fs h' => exact h
  | bad => exact h
def nxP (f : Sl → Hs → Q) (P : F → Sl → Hs → Prop) : F → Sl → Hs → Prop := fun F sl h => match F with
  | .nx => okQ (f sl h) P
  | F => P F sl h
theorem okQ_bind {q : Q} {f : Sl → Hs → Q} {P : F → Sl → Hs → Prop} (h : okQ q (nxP f P)) : okQ (q.bind f) P := by
  cases q with
  | ok F sl h' => cases F <;> exact h
  | exc c fs sl h' => exact h
  | bad => exact h
theorem R.bind_ok {α β : Type} {a : α} {h : Hs} {f : α → Hs → R β} : (R.ok a h).bind f = f a h := rfl
theorem R.bind_exc {α β : Type} {c : Nat} {fs : List D} {h : Hs} {f : α → Hs → R β} : (R.exc c fs h : R α).bind f = .exc c fs h := rfl
theorem R.q_ok {α : Type} {a : α} {h : Hs} {sl : Sl} {f : α → Hs → Q} : (R.ok a h).q sl f = f a h := rfl
theorem R.q_exc {α : Type} {c : Nat} {fs : List D} {h : Hs} {sl : Sl} {f : α → Hs → Q} : (R.exc c fs h : R α).q sl f = .exc c fs sl h := rfl
theorem R.of_some {α : Type} {a : α} {h : Hs} : R.of (some a) h = .ok a h := rfl
theorem R.nox_ok {α : Type} {a : α} {h : Hs} : (R.ok a h).nox = .ok a h := rfl
theorem Q.bind_nx {sl : Sl} {h : Hs} {f : Sl → Hs → Q} : (Q.ok .nx sl h).bind f = f sl h := rfl
theorem Q.bind_rt {d : D} {sl : Sl} {h : Hs} {f : Sl → Hs → Q} : (Q.ok (.rt d) sl h).bind f = .ok (.rt d) sl h := rfl
theorem Q.bind_bk {sl : Sl} {h : Hs} {f : Sl → Hs → Q} : (Q.ok .bk sl h).bind f = .ok .bk sl h := rfl
theorem Q.bind_ct {sl : Sl} {h : Hs} {f : Sl → Hs → Q} : (Q.ok .ct sl h).bind f = .ok .ct sl h := rfl
theorem Q.bind_exc {c : Nat} {fs : List D} {sl : Sl} {h : Hs} {f : Sl → Hs → Q} : (Q.exc c fs sl h).bind f = .exc c fs sl h := rfl
/-- a def's end -/
def finQ : Q → R D
  | .ok (.rt v) _ h => .ok v h
  | .ok .nx _ h => .ok .non h
  | .exc c fs _ h => .exc c fs h
  | _ => .bad
theorem fin_rt {v : D} {sl : Sl} {h : Hs} : finQ (.ok (.rt v) sl h) = .ok v h := rfl
theorem fin_nx {sl : Sl} {h : Hs} : finQ (.ok .nx sl h) = .ok .non h := rfl
theorem fin_exc {c : Nat} {fs : List D} {sl : Sl} {h : Hs} : finQ (.exc c fs sl h) = .exc c fs h := rfl
theorem okR_fin {q : Q} {P : D → Hs → Prop} (h : okQ q fun F _ h => match F with
    | .rt v => P v h
    | .nx => P .non h
    | _ => False) : okR (finQ q) P := by
  cases q with
  | ok F sl h' => cases F <;> exact h
  | exc c fs sl h' => exact h
  | bad => exact h
theorem okR_nox {α : Type} {r : R α} {P : α → Hs → Prop} (h : okR r P) : okR r.nox P := by
  cases r with
  | ok a h' => exact h
  | exc c fs h' => exact h
  | bad => exact h
theorem callN_eq {G : Gl} {Fs : List Fn} {n f : Nat} {vs : List D} {h : Hs} {fn : Fn} (hF : Fs[f]? = some fn) (hl : vs.length = fn.np) : callN G Fs (n + 1) f vs h = finQ (evSs G (callN G Fs n) fn.body (vs.map some ++ List.replicate (fn.ns - fn.np) none) h) := by
  simp only [callN, hF, if_pos hl]
  try rfl
theorem okQ_cons {G : Gl} {C : Nat → List D → Hs → R D} {s : S} {ss : List S} {sl : Sl} {h : Hs} {P : F → Sl → Hs → Prop} (k : okQ (evS G C s sl h) (nxP (evSs G C ss) P)) : okQ (evSs G C (s :: ss) sl h) P := by
  simp only [evSs]
  exact okQ_bind k
theorem evSs_nil {G : Gl} {C : Nat → List D → Hs → R D} {sl : Sl} {h : Hs} : evSs G C [] sl h = .ok .nx sl h := rfl
theorem nx_nx {f : Sl → Hs → Q} {P : F → Sl → Hs → Prop} {sl : Sl} {h : Hs} : nxP f P .nx sl h = okQ (f sl h) P := rfl
theorem nx_rt {f : Sl → Hs → Q} {P : F → Sl → Hs → Prop} {sl : Sl} {h : Hs} {d : D} : nxP f P (.rt d) sl h = P (.rt d) sl h := rfl
def pl : Nat → D → Bool
  | 0, _ => false
  | n + 1, .tup xs => xs.all (pl n)
  | n + 1, .lst xs => xs.all (pl n)
  | _ + 1, .ref _ => false
  | _ + 1, .exn _ _ => false
  | _ + 1, .scr _ => false
  | _ + 1, .kup _ => false
  | _ + 1, .dic _ _ => false
  | _ + 1, _ => true
theorem mapO_id {f : D → Option D} : ∀ {xs : List D}, (∀ x ∈ xs, f x = some x) → mapO f xs = some xs
  | [], _ => rfl
  | x :: xs, h => by
    have h1 := h x (List.mem_cons_self ..)
    have h2 := mapO_id (f := f) (xs := xs) fun y hy => h y (List.mem_cons_of_mem _ hy)
    simp only [mapO, h1, h2, Option.bind_some]
theorem deep_pl {w : Bool} {h : Hs} : ∀ {n : Nat} {d : D}, pl n d = true → deep w h n d = some d
  | 0, _, q => by simp [pl] at q
  | n + 1, d, q => by
    cases d with
    | tup xs =>
      simp only [pl, List.all_eq_true] at q
      simp only [deep, mapO_id fun x hx => deep_pl (n := n) (q x hx), Option.map_some]
    | lst xs =>
      simp only [pl, List.all_eq_true] at q
      simp only [deep, mapO_id fun x hx => deep_pl (n := n) (q x hx), Option.map_some]
    | _ => first | rfl | (simp [pl] at q; done)
theorem frz_pl {h : Hs} {k i : Nat} : ∀ {n : Nat} {d : D}, pl n d = true → frz h k i n d = some d
  | 0, _, q => by simp [pl] at q
  | n + 1, d, q => by
    cases d with
    | tup xs =>
      simp only [pl, List.all_eq_true] at q
      simp only [frz, mapO_id fun x hx => frz_pl (n := n) (q x hx), Option.map_some]
    | lst xs =>
      simp only [pl, List.all_eq_true] at q
      simp only [frz, mapO_id fun x hx => frz_pl (n := n) (q x hx), Option.map_some]
    | _ => first | rfl | (simp [pl] at q; done)
theorem eqT_refl : ∀ {n : Nat} {d : D}, pl n d = true → eqT d d = true
  | 0, _, q => by simp [pl] at q
  | n + 1, d, q => by
    have go : ∀ xs : List D, (∀ x ∈ xs, eqT x x = true) → eqTs xs xs = true := fun xs => by
      induction xs with
      | nil => intro _; rfl
      | cons x xs ih =>
        intro h
        simp only [eqTs, h x (List.mem_cons_self ..), ih fun y hy => h y (List.mem_cons_of_mem _ hy), Bool.and_self]
    cases d with
    | tup xs =>
      simp only [pl, List.all_eq_true] at q
      simp only [eqT]
      exact go xs fun x hx => eqT_refl (q x hx)
    | lst xs =>
      simp only [pl, List.all_eq_true] at q
      simp only [eqT]
      exact go xs fun x hx => eqT_refl (q x hx)
    | _ => first | (simp [eqT]; done) | (simp [pl] at q; done)
theorem eqD_pl {h : Hs} {a b : D} (ha : pl 40 a = true) (hb : pl 40 b = true) : eqD h a b = some (eqT a b) := by
  unfold eqD
  rw [deep_pl ha, deep_pl hb]
  rfl
theorem pl_lst {n : Nat} {xs : List D} : (∀ x ∈ xs, pl n x = true) → pl (n + 1) (.lst xs) = true := fun h => by
  simp only [pl, List.all_eq_true]; exact h
theorem pl_tup {n : Nat} {xs : List D} : (∀ x ∈ xs, pl n x = true) → pl (n + 1) (.tup xs) = true := fun h => by
  simp only [pl, List.all_eq_true]; exact h
theorem pl_up : ∀ {n : Nat} {d : D}, pl n d = true → pl (n + 1) d = true
  | 0, _, q => by simp [pl] at q
  | n + 1, d, q => by
    cases d with
    | tup xs =>
      simp only [pl, List.all_eq_true] at q
      exact pl_tup fun x hx => pl_up (q x hx)
    | lst xs =>
      simp only [pl, List.all_eq_true] at q
      exact pl_lst fun x hx => pl_up (q x hx)
    | _ => first | rfl | (simp [pl] at q; done)
theorem pl_le {n m : Nat} {d : D} (q : pl n d = true) (h : n ≤ m) : pl m d = true := by
  induction h with
  | refl => exact q
  | step _ ih => exact pl_up ih
theorem end_pure {h t : Hs} {d : D} (q : pl 40 d = true) : endCall .pure h (.ok d (h ++ t)) = .ok d h := by
  have e : (h ++ t).take h.length = h := by simp
  simp only [endCall]
  rw [if_pos e, frz_pl q]
  rfl
theorem end_pure0 {h : Hs} {d : D} (q : pl 40 d = true) : endCall .pure h (.ok d h) = .ok d h := by
  have := end_pure (h := h) (t := []) q
  rwa [List.append_nil] at this
theorem end_raw {h : Hs} {r : R D} : endCall .raw h r = r := rfl
section
variable {i j : Int} {h : Hs}
theorem b_add : binD .Add (.int i) (.int j) h = .ok (.int (i + j)) h := rfl
theorem b_sub : binD .Sub (.int i) (.int j) h = .ok (.int (i - j)) h := rfl
theorem b_mul (q : -(2 ^ 64) < i ∧ i < 2 ^ 64) : binD .Mult (.int i) (.int j) h = .ok (.int (i * j)) h := if_pos (.inl q)
theorem b_fdiv (q : 0 < j ∧ j < 1073741824) : binD .FloorDiv (.int i) (.int j) h = .ok (.int (i / j)) h := if_pos q
theorem b_mod (q : 0 < j) : binD .Mod (.int i) (.int j) h = .ok (.int (i % j)) h := if_pos q
theorem b_pow (q : 0 ≤ j ∧ j ≤ 1000 ∧ i.natAbs < 2 ^ 64) : binD .Pow (.int i) (.int j) h = .ok (.int (i ^ j.toNat)) h := if_pos q
theorem b_adds {s t : List Nat} (q : s.length + t.length ≤ lim) : binD .Add (.str s) (.str t) h = .ok (.str (s ++ t)) h := if_pos q
theorem b_addt {s t : List D} (q : s.length + t.length ≤ lim) : binD .Add (.tup s) (.tup t) h = .ok (.tup (s ++ t)) h := if_pos q
theorem b_addl {s t : List D} (q : s.length + t.length ≤ lim) : binD .Add (.lst s) (.lst t) h = .ok (.lst (s ++ t)) h := by
  show (if _ then _ else _) = _
  exact if_pos q
theorem c_lt : cmpD h .Lt (.int i) (.int j) = some (decide (i < j)) := rfl
theorem c_le : cmpD h .LtE (.int i) (.int j) = some (decide (i ≤ j)) := rfl
theorem c_gt : cmpD h .Gt (.int i) (.int j) = some (decide (j < i)) := rfl
theorem c_ge : cmpD h .GtE (.int i) (.int j) = some (decide (j ≤ i)) := rfl
theorem beq_dec {α : Type} [DecidableEq α] (a b : α) : (a == b) = decide (a = b) := by
  by_cases e : a = b <;> simp [e]
theorem c_eqi : cmpD h .Eq (.int i) (.int j) = some (decide (i = j)) := by
  show some (i == j) = _
  rw [beq_dec]
theorem c_nei : cmpD h .NotEq (.int i) (.int j) = some (!decide (i = j)) := by
  show some (!(i == j)) = _
  rw [beq_dec]
theorem c_eqs {s t : List Nat} : cmpD h .Eq (.str s) (.str t) = some (decide (s = t)) := by
  show some (s == t) = _
  by_cases e : s = t <;> simp [e]
theorem c_nes {s t : List Nat} : cmpD h .NotEq (.str s) (.str t) = some (!decide (s = t)) := by
  show some (!(s == t)) = _
  by_cases e : s = t <;> simp [e]
theorem c_eq {a b : D} (ha : pl 40 a = true) (hb : pl 40 b = true) : cmpD h .Eq a b = some (eqT a b) := eqD_pl ha hb
theorem c_ne {a b : D} (ha : pl 40 a = true) (hb : pl 40 b = true) : cmpD h .NotEq a b = some (!eqT a b) := by
  show (eqD h a b).map _ = _
  rw [eqD_pl ha hb]
  rfl
theorem c_isN {a : D} : cmpD h .Is a .non = some (match a with | .non => true | _ => false) := rfl
theorem c_isnN {a : D} : cmpD h .IsNot a .non = some (match a with | .non => false | _ => true) := rfl
theorem c_isB {a b : Bool} : cmpD h .Is (.bl a) (.bl b) = some (decide (a = b)) := rfl
theorem c_isnB {a b : Bool} : cmpD h .IsNot (.bl a) (.bl b) = some (!decide (a = b)) := rfl
theorem t_bl {b : Bool} : truD h (.bl b) = some b := rfl
theorem t_int : truD h (.int i) = some (decide (i ≠ 0)) := rfl
theorem t_non : truD h .non = some false := rfl
theorem t_tup {xs : List D} : truD h (.tup xs) = some (!xs.isEmpty) := rfl
theorem t_lst {xs : List D} : truD h (.lst xs) = some (!xs.isEmpty) := rfl
end
def All2 {α β : Type} (T : α → β → Prop) : List α → List β → Prop
  | [], [] => True
  | x :: xs, y :: ys => T x y ∧ All2 T xs ys
  | _, _ => False
theorem All2.length {α β : Type} {T : α → β → Prop} : ∀ {xs : List α} {ys : List β}, All2 T xs ys → xs.length = ys.length
  | [], [], _ => rfl
  | x :: xs, y :: ys, h => by simp [All2.length h.2]
  | [], _ :: _, h => False.elim h
  | _ :: _, [], h => False.elim h
theorem All2.right {α β : Type} {T : α → β → Prop} : ∀ {xs : List α} {ys : List β}, All2 T xs ys → ∀ y ∈ ys, ∃ x ∈ xs, T x y
  | x :: xs, y :: ys, h, z, hz => by
    rcases List.mem_cons.mp hz with rfl | hz
    · exact ⟨x, List.mem_cons_self .., h.1⟩
    · obtain ⟨w, hw, t⟩ := All2.right h.2 z hz
      exact ⟨w, List.mem_cons_of_mem _ hw, t⟩
  | [], [], _, z, hz => by simp at hz
theorem chk_nil {h : Hs} : chk [] h = true := rfl
/-- every step gives one value -/
theorem mapR_one {s : Src} {f : D → Hs → R (Option D)} (I : Hs → Prop) (T : D → D → Prop) (hc : ∀ h, I h → chk s h = true) : ∀ {xs : List D} {h : Hs},
    (∀ x ∈ xs, ∀ h, I h → okR (f x h) fun o h' => I h' ∧ ∃ y, o = some y ∧ T x y) → I h → okR (mapR s f xs h) fun ys h' => I h' ∧ All2 T xs ys
  | [], h, _, i => by
    simp only [mapR]
    rw [if_pos (hc h i)]
    exact ⟨i, trivial⟩
  | x :: xs, h, k, i => by
    simp only [mapR]
    rw [if_pos (hc h i)]
    refine okR_bind (okR_mono (k x (List.mem_cons_self ..) h i) fun o h1 ⟨i1, y, e, t⟩ => ?_)
    refine okR_bind (okR_mono (mapR_one I T hc (fun y hy => k y (List.mem_cons_of_mem _ hy)) i1) fun ys h2 ⟨i2, a⟩ => ?_)
    subst e
    exact ⟨i2, t, a⟩
theorem forL_ok {s : Src} {f : D → Sl → Hs → Q} (I : Sl → Hs → Prop) (hc : ∀ sl h, I sl h → chk s h = true) : ∀ {xs : List D} {sl : Sl} {h : Hs},
    (∀ x ∈ xs, ∀ sl h, I sl h → okQ (f x sl h) fun F sl' h' => (F = .nx ∨ F = .ct) ∧ I sl' h') → I sl h → okQ (forL s f xs sl h) fun F sl' h' => F = .nx ∧ I sl' h'
  | [], sl, h, _, i => by
    simp only [forL]
    rw [if_pos (hc sl h i)]
    exact ⟨rfl, i⟩
  | x :: xs, sl, h, k, i => by
    simp only [forL]
    rw [if_pos (hc sl h i)]
    have q := k x (List.mem_cons_self ..) sl h i
    cases e : f x sl h with
    | ok F sl1 h1 =>
      rw [e] at q
      obtain ⟨q, i1⟩ := q
      rcases q with rfl | rfl
      · exact forL_ok I hc (fun y hy => k y (List.mem_cons_of_mem _ hy)) i1
      · exact forL_ok I hc (fun y hy => k y (List.mem_cons_of_mem _ hy)) i1
    | exc c fs sl1 h1 => rw [e] at q; exact False.elim q
    | bad => rw [e] at q; exact False.elim q
theorem mem_range {lo : Int} {n : Nat} {x : D} (h : x ∈ rangeL lo n) : ∃ k : Nat, k < n ∧ x = .int (lo + k) := by
  unfold rangeL at h
  obtain ⟨k, hk, rfl⟩ := List.mem_map.mp h
  exact ⟨k, List.mem_range.mp hk, rfl⟩
theorem length_range {lo : Int} {n : Nat} : (rangeL lo n).length = n := by simp [rangeL]
/-- the rounds of a law -/
theorem rounds_ok {G : Gl} {C : Nat → List D → Hs → R D} {N : Nat} {body : List S} {ns : List Int} (hN : 1 ≤ N ∧ N ≤ 100) (L : Nat) (I : Hs → Prop) {sl : Sl} {h : Hs} (hL : sl.length = L + 1) (hI : I h)
    (hb : ∀ k : Nat, k < N → ∀ (l : Sl) (h : Hs), l.length = L → I h → okQ (evSs G C body (some (.scr ns) :: some (.int k) :: l) h) fun F sl' h' => (F = .nx ∨ F = .ct) ∧ (∃ l', sl' = some (.scr ns) :: l' ∧ l'.length = L + 1) ∧ I h') :
    okQ (evS G C (.for_ (.nm 1) (.range (.cst (.int 0)) (.bi .max [.cst (.int 1), .bi .min [.bi .len [.var 0] false, .cst (.int N)] false] false)) body) (some (.scr ns) :: sl) h) fun F sl' h' => F = .nx ∧ (∃ l', sl' = some (.scr ns) :: l' ∧ l'.length = L + 1) ∧ I h' := by
  obtain ⟨J, hJ, hJ2⟩ : ∃ J : Nat, J ≤ N ∧ evI G C (.range (.cst (.int 0)) (.bi .max [.cst (.int 1), .bi .min [.bi .len [.var 0] false, .cst (.int N)] false] false)) (some (.scr ns) :: sl) h = .ok (rangeL 0 J, []) h := by
    let j : Int := if (if (N : Int) < ns.length then (N : Int) else ns.length) > 1 then (if (N : Int) < ns.length then (N : Int) else ns.length) else 1
    have j1 : 1 ≤ j ∧ j ≤ N := by
      show 1 ≤ (if (if (N : Int) < ns.length then (N : Int) else ns.length) > 1 then (if (N : Int) < ns.length then (N : Int) else ns.length) else 1) ∧ (if (if (N : Int) < ns.length then (N : Int) else ns.length) > 1 then (if (N : Int) < ns.length then (N : Int) else ns.length) else 1) ≤ (N : Int)
      split <;> split <;> omega
    refine ⟨j.toNat, by omega, ?_⟩
    have e : evI G C (.range (.cst (.int 0)) (.bi .max [.cst (.int 1), .bi .min [.bi .len [.var 0] false, .cst (.int N)] false] false)) (some (.scr ns) :: sl) h = if -1000000 ≤ (0 : Int) ∧ (0 : Int) ≤ 1000000 ∧ -1000000 ≤ j ∧ j ≤ 1000000 then .ok (rangeL 0 (j - 0).toNat, []) h else .bad := rfl
    rw [e, if_pos (by omega)]
    simp
  simp only [evS, hJ2, R.q]
  refine okQ_mono (forL_ok (fun sl h => (∃ l', sl = some (.scr ns) :: l' ∧ l'.length = L + 1) ∧ I h) (fun _ _ _ => rfl) (fun x hx sl h ⟨⟨l', e, hl'⟩, hI⟩ => ?_) ⟨⟨sl, rfl, hL⟩, hI⟩) fun F sl' h' q => q
  obtain ⟨k, hk, rfl⟩ := mem_range hx
  subst e
  cases l' with
  | nil => simp at hl'
  | cons a l' =>
    have hl2 : l'.length = L := by simpa using hl'
    have := hb k (by omega) l' h hl2 hI
    simp only [asgT, R.of, R.q, List.set_cons_succ, List.set_cons_zero, Int.zero_add]
    exact this
def pM : Int := 2147483647
def Fpool : Fn := ⟨2, 4, [.asg (.nm 2) (.cst (.int 0)), .ite (.cmp .Lt (.var 1) (.bi .len [.var 0] false)) [.asg (.nm 2) (.ix (.var 0) (.var 1))] [],
  .asg (.nm 3) (.bin .Mod (.bin .Pow (.bin .Add (.bin .Add (.bin .Mod (.var 2) (.cst (.int 2147483629))) (.bin .Mult (.bin .Mult (.cst (.int 7919)) (.var 1)) (.var 1))) (.cst (.int 31))) (.cst (.int 3))) (.cst (.int 2147483647))),
  .ite (.cmp .Lt (.var 2) (.bin .Pow (.cst (.int 10)) (.cst (.int 18)))) [.asg (.nm 2) (.cst (.int 0))] [], .ret (some (.lst [.var 2, .var 3] true))]⟩
def Fdraw : Fn := ⟨2, 3, [.ite (.cmp .Gt (.ix (.var 0) (.cst (.int 0))) (.cst (.int 0))) [.asg (.nm 2) (.bin .Mod (.ix (.var 0) (.cst (.int 0))) (.var 1)), .sto (.var 0) (.cst (.int 0)) (.bin .FloorDiv (.ix (.var 0) (.cst (.int 0))) (.var 1)), .ret (some (.var 2))] [],
  .sto (.var 0) (.cst (.int 1)) (.bin .Mod (.bin .Add (.bin .Mult (.ix (.var 0) (.cst (.int 1))) (.cst (.int 48271))) (.cst (.int 11))) (.cst (.int 2147483647))),
  .ret (some (.bin .Mod (.bin .FloorDiv (.bin .Mod (.bin .Mult (.ix (.var 0) (.cst (.int 1))) (.ix (.var 0) (.cst (.int 1)))) (.cst (.int 2147483629))) (.cst (.int 64))) (.var 1)))]⟩
def Fchoose (f : Nat) : Fn := ⟨2, 2, [.ret (some (.ix (.var 1) (.call f [.var 0, .bi .len [.var 1] false] .raw)))]⟩
/-- h is h0 with a pool at i -/
def PoolAt (i : Nat) (h0 h : Hs) : Prop := i < h0.length ∧ ∃ a b : Int, 0 ≤ b ∧ b < pM ∧ h = h0.set i (.lst [.int a, .int b])
theorem PoolAt.new {h : Hs} {a b : Int} (hb : 0 ≤ b) (hb2 : b < pM) : PoolAt h.length (h ++ [.lst [.int a, .int b]]) (h ++ [.lst [.int a, .int b]]) := ⟨by simp, a, b, hb, hb2, by simp⟩
theorem PoolAt.get {i : Nat} {h0 h : Hs} (p : PoolAt i h0 h) : ∃ a b : Int, 0 ≤ b ∧ b < pM ∧ h[i]? = some (.lst [.int a, .int b]) := by
  obtain ⟨hi, a, b, h1, h2, rfl⟩ := p
  exact ⟨a, b, h1, h2, by simp [hi]⟩
theorem PoolAt.set {i : Nat} {h0 h : Hs} {a b : Int} (p : PoolAt i h0 h) (hb : 0 ≤ b) (hb2 : b < pM) : PoolAt i h0 (h.set i (.lst [.int a, .int b])) := by
  obtain ⟨hi, a', b', h1, h2, rfl⟩ := p
  exact ⟨hi, a, b, hb, hb2, by simp⟩
theorem PoolAt.app {i : Nat} {h0 h t : Hs} (p : PoolAt i h0 h) : PoolAt i (h0 ++ t) (h ++ t) := by
  obtain ⟨hi, a', b', h1, h2, rfl⟩ := p
  exact ⟨by rw [List.length_append]; omega, a', b', h1, h2, by rw [List.set_append_left _ _ hi]⟩
theorem PoolAt.len {i : Nat} {h0 h : Hs} (p : PoolAt i h0 h) : h.length = h0.length := by
  obtain ⟨hi, a', b', h1, h2, rfl⟩ := p
  simp
theorem PoolAt.other {i j : Nat} {h0 h : Hs} (p : PoolAt i h0 h) (n : j ≠ i) : h[j]? = h0[j]? := by
  obtain ⟨hi, a', b', h1, h2, rfl⟩ := p
  rw [List.getElem?_set_ne (Ne.symm n)]
section
variable {G : Gl} {Fs : List Fn} {f n : Nat}
theorem ix_lst {h : Hs} {i : Nat} {xs : List D} {k : Int} (e : h[i]? = some (.lst xs)) : ixD h (.ref i) (.int k) = L2.atI xs k := by
  show (seqV h (.ref i)).bind _ = _
  simp only [seqV, e, Option.bind_some, seqN]
theorem ix_frz {h : Hs} {xs : List D} {k : Int} : ixD h (.lst xs) (.int k) = L2.atI xs k := rfl
theorem ix_tup {h : Hs} {xs : List D} {k : Int} : ixD h (.tup xs) (.int k) = L2.atI xs k := rfl
theorem ix_scr {h : Hs} {ns : List Int} {k : Int} : ixD h (.scr ns) (.int k) = (L2.atI ns k).map .int := rfl
theorem at0 {α : Type} {x : α} {xs : List α} : L2.atI (x :: xs) 0 = some x := by
  unfold L2.atI L2.ixN
  simp
theorem at1 {α : Type} {x y : α} {xs : List α} : L2.atI (x :: y :: xs) 1 = some y := by
  have := L2.atI_nat (xs := x :: y :: xs) (j := 1) (v := y) rfl
  exact this
theorem at_lt {α : Type} {xs : List α} {k : Int} (h : 0 ≤ k) (h2 : k < xs.length) : ∃ x, x ∈ xs ∧ L2.atI xs k = some x ∧ xs[k.toNat]? = some x := by
  have hk : k.toNat < xs.length := by omega
  have e : ((k.toNat : Nat) : Int) = k := by omega
  have g : xs[k.toNat]? = some xs[k.toNat] := List.getElem?_eq_getElem hk
  refine ⟨xs[k.toNat], List.getElem_mem hk, ?_, g⟩
  have := L2.atI_nat g
  rwa [e] at this
theorem pool_ok {ns : List Int} {k : Nat} {h : Hs} (hF : Fs[f]? = some Fpool) (hk : k < 100) : ∃ a b : Int, 0 ≤ b ∧ b < pM ∧ callN G Fs (n + 1) f [.scr ns, .int k] h = .ok (.ref h.length) (h ++ [.lst [.int a, .int b]]) := by
  have key : ∀ c : Int, ∃ a b : Int, 0 ≤ b ∧ b < pM ∧ evSs G (callN G Fs n) (Fpool.body.drop 2) [some (.scr ns), some (.int k), some (.int c), none] h = .ok (.rt (.ref h.length)) [some (.scr ns), some (.int k), some (.int a), some (.int b)] (h ++ [.lst [.int a, .int b]]) := fun c => by
    have h7 : 0 ≤ c % 2147483629 := Int.emod_nonneg _ (by decide)
    have h8 : c % 2147483629 < 2147483629 := Int.emod_lt_of_pos _ (by decide)
    have hk2 : (k : Int) * k ≤ 100 * 100 := Int.mul_le_mul (by omega) (by omega) (by omega) (by omega)
    have hk3 : 0 ≤ (k : Int) * k := Int.mul_nonneg (by omega) (by omega)
    have e7 : 7919 * (k : Int) * k = 7919 * (k * k) := Int.mul_assoc ..
    have hb0 : 0 ≤ (c % 2147483629 + 7919 * (k : Int) * k + 31) ^ 3 % 2147483647 := Int.emod_nonneg _ (by decide)
    have hb1 : (c % 2147483629 + 7919 * (k : Int) * k + 31) ^ 3 % 2147483647 < pM := Int.emod_lt_of_pos _ (by decide)
    have p1 : -(2 ^ 64) < (7919 : Int) ∧ (7919 : Int) < 2 ^ 64 := by omega
    have p2 : -(2 ^ 64) < 7919 * (k : Int) ∧ 7919 * (k : Int) < 2 ^ 64 := ⟨by omega, by omega⟩
    have p3 : 0 ≤ (3 : Int) ∧ (3 : Int) ≤ 1000 ∧ (c % 2147483629 + 7919 * (k : Int) * k + 31).natAbs < 2 ^ 64 := ⟨by decide, by decide, by omega⟩
    have p4 : 0 ≤ (18 : Int) ∧ (18 : Int) ≤ 1000 ∧ (10 : Int).natAbs < 2 ^ 64 := by omega
    refine ⟨if c < 1000000000000000000 then 0 else c, (c % 2147483629 + 7919 * (k : Int) * k + 31) ^ 3 % 2147483647, hb0, hb1, ?_⟩
    simp (config := {implicitDefEqProofs := false}) only [Fpool, List.drop, evSs, evS, evE, evEs, List.getElem?_cons_zero, List.getElem?_cons_succ, R.q_ok, R.bind_ok, R.of_some, Q.bind_nx, Q.bind_rt, b_mod (show (0 : Int) < 2147483629 by decide), b_mod (show (0 : Int) < 2147483647 by decide), b_mul p1, b_mul p2, b_add, b_pow p3, b_pow p4, asgT, List.set_cons_succ, List.set_cons_zero, c_lt, t_bl, lstOf, if_true]
    have e10 : (10 : Int) ^ (18 : Int).toNat = 1000000000000000000 := by simp
    have e3 : (3 : Int).toNat = 3 := by simp
    rw [e10, e3]
    by_cases hc : c < 1000000000000000000
    · simp (config := {implicitDefEqProofs := false}) only [hc, decide_true, if_true, evSs, evS, evE, evEs, R.q_ok, R.bind_ok, R.of_some, Q.bind_nx, Q.bind_rt, asgT, List.set_cons_succ, List.set_cons_zero, List.getElem?_cons_zero, List.getElem?_cons_succ, lstOf]
    · simp (config := {implicitDefEqProofs := false}) only [hc, decide_false, Bool.false_eq_true, if_false, evSs, evS, evE, evEs, R.q_ok, R.bind_ok, R.of_some, Q.bind_nx, Q.bind_rt, asgT, List.set_cons_succ, List.set_cons_zero, List.getElem?_cons_zero, List.getElem?_cons_succ, lstOf, if_true]
  have hs : ∃ c : Int, evSs G (callN G Fs n) Fpool.body [some (.scr ns), some (.int k), none, none] h = evSs G (callN G Fs n) (Fpool.body.drop 2) [some (.scr ns), some (.int k), some (.int c), none] h := by
    by_cases hl : (k : Int) < ns.length
    · obtain ⟨c, _, hc, _⟩ := at_lt (xs := ns) (by omega : (0 : Int) ≤ k) hl
      refine ⟨c, ?_⟩
      simp (config := {implicitDefEqProofs := false}) only [Fpool, List.drop, evSs, evS, evE, evEs, List.getElem?_cons_zero, List.getElem?_cons_succ, R.q_ok, R.bind_ok, R.of_some, Q.bind_nx, Q.bind_rt, asgT, List.set_cons_succ, List.set_cons_zero, biD, c_lt, t_bl, hl, decide_true, if_true, ix_scr, hc, Option.map_some]
    · refine ⟨0, ?_⟩
      simp (config := {implicitDefEqProofs := false}) only [Fpool, List.drop, evSs, evS, evE, evEs, List.getElem?_cons_zero, List.getElem?_cons_succ, R.q_ok, R.bind_ok, R.of_some, Q.bind_nx, Q.bind_rt, asgT, List.set_cons_succ, List.set_cons_zero, biD, c_lt, t_bl, hl, decide_false, Bool.false_eq_true, if_false]
  obtain ⟨c, hc⟩ := hs
  obtain ⟨a, b, h1, h2, h3⟩ := key c
  refine ⟨a, b, h1, h2, ?_⟩
  have e1 : callN G Fs (n + 1) f [.scr ns, .int k] h = (match evSs G (callN G Fs n) Fpool.body [some (.scr ns), some (.int k), none, none] h with
      | .ok (.rt v) _ h => .ok v h
      | .ok .nx _ h => .ok .non h
      | .exc c fs _ h => .exc c fs h
      | _ => .bad) := by
    simp only [callN, hF]
    try rfl
  rw [e1, hc, h3]
theorem newpool_ok {N : Nat} {ns : List Int} {k : Nat} {h : Hs} (hN : 1 ≤ N) (hF : Fs[f]? = some Fpool) (hk : k < 100) : okR (callN G Fs N f [.scr ns, .int k] h) fun v h' => v = .ref h.length ∧ PoolAt h.length h' h' ∧ ∃ p, h' = h ++ [p] := by
  obtain ⟨n, rfl⟩ : ∃ n, N = n + 1 := ⟨N - 1, by omega⟩
  obtain ⟨a, b, h1, h2, e⟩ := pool_ok (G := G) (n := n) (h := h) (ns := ns) hF hk
  rw [e]
  exact ⟨rfl, PoolAt.new h1 h2, _, rfl⟩
theorem draw_eq {i : Nat} {a b m : Int} {h : Hs} (hF : Fs[f]? = some Fdraw) (hi : h[i]? = some (.lst [.int a, .int b])) (hb : 0 ≤ b) (hb2 : b < pM) (hm : 0 < m) (hm2 : m < 1073741824) :
    ∃ d a' b' : Int, 0 ≤ d ∧ d < m ∧ 0 ≤ b' ∧ b' < pM ∧ callN G Fs (n + 1) f [.ref i, .int m] h = .ok (.int d) (h.set i (.lst [.int a', .int b'])) := by
  have hil : i < h.length := (List.getElem?_eq_some_iff.mp hi).1
  have e1 : callN G Fs (n + 1) f [.ref i, .int m] h = (match evSs G (callN G Fs n) Fdraw.body [some (.ref i), some (.int m), none] h with
      | .ok (.rt v) _ h => .ok v h
      | .ok .nx _ h => .ok .non h
      | .exc c fs _ h => .exc c fs h
      | _ => .bad) := by
    simp only [callN, hF]
    try rfl
  rw [e1]
  have st : ∀ (k : Int) (x : D) (ys : List D), L2.ixN 2 k = some ys.length → True := fun _ _ _ _ => trivial
  have s0 : ∀ v : D, stoD (.ref i) (.int 0) v h = .ok () (h.set i (.lst [v, .int b])) := fun v => by
    simp only [stoD, hi]
    rfl
  have s1 : ∀ v : D, stoD (.ref i) (.int 1) v h = .ok () (h.set i (.lst [.int a, v])) := fun v => by
    simp only [stoD, hi]
    rfl
  by_cases ha : (0 : Int) < a
  · refine ⟨a % m, a / m, b, Int.emod_nonneg _ (by omega), Int.emod_lt_of_pos _ hm, hb, hb2, ?_⟩
    simp (config := {implicitDefEqProofs := false}) only [Fdraw, evSs, evS, evE, evEs, List.getElem?_cons_zero, List.getElem?_cons_succ, R.q_ok, R.bind_ok, R.of_some, Q.bind_nx, Q.bind_rt, asgT, List.set_cons_succ, List.set_cons_zero, ix_lst hi, at0, c_gt, t_bl, ha, decide_true, if_true, b_mod hm, b_fdiv ⟨hm, hm2⟩, s0]
  · have q0 : 0 ≤ (b * 48271 + 11) % 2147483647 := Int.emod_nonneg _ (by decide)
    have q1 : (b * 48271 + 11) % 2147483647 < pM := Int.emod_lt_of_pos _ (by decide)
    have p0 : -(2 ^ 64) < b ∧ b < 2 ^ 64 := by unfold pM at hb2; omega
    have p1 : -(2 ^ 64) < (b * 48271 + 11) % 2147483647 ∧ (b * 48271 + 11) % 2147483647 < 2 ^ 64 := by unfold pM at q1; omega
    have h2 : (h.set i (.lst [.int a, .int ((b * 48271 + 11) % 2147483647)]))[i]? = some (.lst [.int a, .int ((b * 48271 + 11) % 2147483647)]) := by simp [hil]
    refine ⟨_, a, (b * 48271 + 11) % 2147483647, Int.emod_nonneg (((b * 48271 + 11) % 2147483647 * ((b * 48271 + 11) % 2147483647) % 2147483629) / 64) (by omega : m ≠ 0), Int.emod_lt_of_pos _ hm, q0, q1, ?_⟩
    simp (config := {implicitDefEqProofs := false}) only [Fdraw, evSs, evS, evE, evEs, List.getElem?_cons_zero, List.getElem?_cons_succ, R.q_ok, R.bind_ok, R.of_some, Q.bind_nx, Q.bind_rt, asgT, List.set_cons_succ, List.set_cons_zero, ix_lst hi, at0, at1, c_gt, t_bl, ha, decide_false, Bool.false_eq_true, if_false, b_mul p0, b_add, b_mod (show (0 : Int) < 2147483647 by decide), s1, ix_lst h2, b_mul p1, b_mod (show (0 : Int) < 2147483629 by decide), b_fdiv (show (0 : Int) < 64 ∧ (64 : Int) < 1073741824 by decide), b_mod hm]
theorem draw_ok {N i : Nat} {m : Int} {h0 h : Hs} (hN : 1 ≤ N) (hF : Fs[f]? = some Fdraw) (p : PoolAt i h0 h) (hm : 0 < m) (hm2 : m < 1073741824) :
    okR (callN G Fs N f [.ref i, .int m] h) fun v h' => PoolAt i h0 h' ∧ ∃ d : Int, v = .int d ∧ 0 ≤ d ∧ d < m := by
  obtain ⟨n, rfl⟩ : ∃ n, N = n + 1 := ⟨N - 1, by omega⟩
  obtain ⟨a, b, h1, h2, h3⟩ := p.get
  obtain ⟨d, a', b', k1, k2, k3, k4, e⟩ := draw_eq (G := G) (n := n) hF h3 h1 h2 hm hm2
  rw [e]
  exact ⟨p.set k3 k4, d, rfl, k1, k2⟩
theorem choose_ok {N i g : Nat} {xs : List D} {h0 h : Hs} (hN : 2 ≤ N) (hF : Fs[f]? = some (Fchoose g)) (hG : Fs[g]? = some Fdraw) (p : PoolAt i h0 h) (hx : 0 < xs.length) (hx2 : xs.length < 1073741824) :
    okR (callN G Fs N f [.ref i, .lst xs] h) fun v h' => PoolAt i h0 h' ∧ v ∈ xs := by
  obtain ⟨n, rfl⟩ : ∃ n, N = n + 2 := ⟨N - 2, by omega⟩
  have e1 : callN G Fs (n + 2) f [.ref i, .lst xs] h = (match evSs G (callN G Fs (n + 1)) (Fchoose g).body [some (.ref i), some (.lst xs)] h with
      | .ok (.rt v) _ h => .ok v h
      | .ok .nx _ h => .ok .non h
      | .exc c fs _ h => .exc c fs h
      | _ => .bad) := by
    simp only [callN, hF]
    try rfl
  rw [e1]
  obtain ⟨v, h', e, p', d, rfl, d0, d1⟩ := okR_inv (draw_ok (G := G) (N := n + 1) (by omega) hG p (m := xs.length) (by omega) (by omega))
  obtain ⟨x, hx, ea, _⟩ := at_lt d0 d1
  simp (config := {implicitDefEqProofs := false}) only [Fchoose, evSs, evS, evE, evEs, List.getElem?_cons_zero, List.getElem?_cons_succ, R.q_ok, R.bind_ok, R.of_some, Q.bind_nx, Q.bind_rt, biD, seqV, endCall, e, ix_frz, ea]
  exact ⟨p', hx⟩
end
end L2.MP
namespace L2.MP
open PySem
section
variable {G : Gl} {h : Hs} {i j : Int} {b b' : Bool} {s t : List Nat} {xs ys : List D} {x y : D}
theorem isTys_nil : isTys G h x [] = some false := rfl
theorem isTys_cons {t : Ty} {ts : List Ty} : isTys G h x (t :: ts) = (isTy G h x t).bind fun b => if b then some true else isTys G h x ts := rfl
theorem ty_int_non : isTy G h D.non .int = some false := rfl
theorem ty_int_bl : isTy G h (D.bl b) .int = some true := rfl
theorem ty_int_int : isTy G h (D.int i) .int = some true := rfl
theorem ty_int_str : isTy G h (D.str s) .int = some false := rfl
theorem ty_int_tup : isTy G h (D.tup xs) .int = some false := rfl
theorem ty_int_lst : isTy G h (D.lst xs) .int = some false := rfl
theorem ty_int_dic : isTy G h (D.dic xs ys) .int = some false := rfl
theorem ty_bool_non : isTy G h D.non .bool = some false := rfl
theorem ty_bool_bl : isTy G h (D.bl b) .bool = some true := rfl
theorem ty_bool_int : isTy G h (D.int i) .bool = some false := rfl
theorem ty_bool_str : isTy G h (D.str s) .bool = some false := rfl
theorem ty_bool_tup : isTy G h (D.tup xs) .bool = some false := rfl
theorem ty_bool_lst : isTy G h (D.lst xs) .bool = some false := rfl
theorem ty_bool_dic : isTy G h (D.dic xs ys) .bool = some false := rfl
theorem ty_str_non : isTy G h D.non .str = some false := rfl
theorem ty_str_bl : isTy G h (D.bl b) .str = some false := rfl
theorem ty_str_int : isTy G h (D.int i) .str = some false := rfl
theorem ty_str_str : isTy G h (D.str s) .str = some true := rfl
theorem ty_str_tup : isTy G h (D.tup xs) .str = some false := rfl
theorem ty_str_lst : isTy G h (D.lst xs) .str = some false := rfl
theorem ty_str_dic : isTy G h (D.dic xs ys) .str = some false := rfl
theorem ty_tuple_non : isTy G h D.non .tuple = some false := rfl
theorem ty_tuple_bl : isTy G h (D.bl b) .tuple = some false := rfl
theorem ty_tuple_int : isTy G h (D.int i) .tuple = some false := rfl
theorem ty_tuple_str : isTy G h (D.str s) .tuple = some false := rfl
theorem ty_tuple_tup : isTy G h (D.tup xs) .tuple = some true := rfl
theorem ty_tuple_lst : isTy G h (D.lst xs) .tuple = some false := rfl
theorem ty_tuple_dic : isTy G h (D.dic xs ys) .tuple = some false := rfl
theorem ty_list_non : isTy G h D.non .list = some false := rfl
theorem ty_list_bl : isTy G h (D.bl b) .list = some false := rfl
theorem ty_list_int : isTy G h (D.int i) .list = some false := rfl
theorem ty_list_str : isTy G h (D.str s) .list = some false := rfl
theorem ty_list_tup : isTy G h (D.tup xs) .list = some false := rfl
theorem ty_list_lst : isTy G h (D.lst xs) .list = some true := rfl
theorem ty_list_dic : isTy G h (D.dic xs ys) .list = some false := rfl
theorem ty_dict_non : isTy G h D.non .dict = some false := rfl
theorem ty_dict_bl : isTy G h (D.bl b) .dict = some false := rfl
theorem ty_dict_int : isTy G h (D.int i) .dict = some false := rfl
theorem ty_dict_str : isTy G h (D.str s) .dict = some false := rfl
theorem ty_dict_tup : isTy G h (D.tup xs) .dict = some false := rfl
theorem ty_dict_lst : isTy G h (D.lst xs) .dict = some false := rfl
theorem ty_dict_dic : isTy G h (D.dic xs ys) .dict = some true := rfl
theorem ty_err_exn {k : Nat} {n : String} {fs : List D} : isTy G h (.exn k fs) (.err n) = (G.exb[k]?).map (· == n) := rfl
theorem ty_own_exn {k c : Nat} {fs : List D} : isTy G h (.exn k fs) (.own c) = some (k == c) := rfl
theorem bi_len_str (q : s.length ≤ lim) {nd : Bool} : biD .len nd [.str s] h = .ok (.int s.length) h := if_pos q
theorem bi_len_scr {ns : List Int} {nd : Bool} : biD .len nd [.scr ns] h = .ok (.int ns.length) h := rfl
theorem bi_len_tup {nd : Bool} : biD .len nd [.tup xs] h = .ok (.int xs.length) h := rfl
theorem bi_len_lst {nd : Bool} : biD .len nd [.lst xs] h = .ok (.int xs.length) h := rfl
theorem bi_len_ref {k : Nat} (e : h[k]? = some (.lst xs)) {nd : Bool} : biD .len nd [.ref k] h = .ok (.int xs.length) h := by
  show (R.of (seqV h (.ref k)) h).bind _ = _
  simp only [seqV, e, Option.bind_some, seqN, R.of_some, R.bind_ok]
theorem bi_tuple_lst {nd : Bool} : biD .tuple nd [.lst xs] h = .ok (.tup xs) h := rfl
theorem bi_tuple_tup {nd : Bool} : biD .tuple nd [.tup xs] h = .ok (.tup xs) h := rfl
theorem bi_list_lst : biD .list false [.lst xs] h = .ok (.lst xs) h := rfl
theorem bi_list_tup : biD .list false [.tup xs] h = .ok (.lst xs) h := rfl
theorem bi_max {nd : Bool} : biD .max nd [.int i, .int j] h = .ok (.int (if j > i then j else i)) h := rfl
theorem bi_min {nd : Bool} : biD .min nd [.int i, .int j] h = .ok (.int (if j < i then j else i)) h := rfl
theorem mapO_map {α β γ : Type} {f : β → Option γ} {g : α → β} {k : α → γ} (q : ∀ a, f (g a) = some (k a)) : ∀ l : List α, mapO f (l.map g) = some (l.map k)
  | [] => rfl
  | a :: l => by simp only [List.map, mapO, q, mapO_map q l, Option.bind_some]
theorem mapO_map_mem {α β γ : Type} {f : β → Option γ} {g : α → β} {k : α → γ} : ∀ {l : List α}, (∀ a ∈ l, f (g a) = some (k a)) → mapO f (l.map g) = some (l.map k)
  | [], _ => rfl
  | a :: l, q => by simp only [List.map, mapO, q a (List.mem_cons_self ..), mapO_map_mem (l := l) fun b hb => q b (List.mem_cons_of_mem _ hb), Option.bind_some]
theorem bools_map {α : Type} {p : α → Bool} {l : List α} : boolsO (l.map fun a => .bl (p a)) = some (l.map p) := by
  unfold boolsO
  exact mapO_map (g := fun a => D.bl (p a)) (k := p) (fun _ => rfl) l
theorem bi_all {α : Type} {p : α → Bool} {l : List α} {nd : Bool} : biD .all nd [.lst (l.map fun a => .bl (p a))] h = .ok (.bl (l.all p)) h := by
  show (R.of ((some _).bind boolsO) h).bind _ = _
  simp only [Option.bind_some, bools_map, R.of_some, R.bind_ok]
  congr 2
  simp [List.all_map, Function.comp_def]
theorem c_ins {k : Nat} : cmpD h .In (.str [k]) (.str s) = some (decide (k ∈ s)) := rfl
theorem c_nins {k : Nat} : cmpD h .NotIn (.str [k]) (.str s) = some (!decide (k ∈ s)) := rfl
theorem inD_seq {a : D} (ha : pl 40 a = true) (q : ∀ z ∈ xs, pl 40 z = true) (e : seqV h y = some xs) (hy : ∀ s, y ≠ .str s) : inD h a y = some (xs.any fun z => eqT z a) := by
  have h1 : inD h a y = (deep false h 40 a).bind fun a => (seqV h y).bind fun ys => (mapO (deep false h 40) ys).bind fun bs => some (bs.any fun z => eqT z a) := by
    have hd : dicN h y = none := by
      cases y <;> first | rfl | skip
      rename_i i
      simp only [seqV] at e
      simp only [dicN]
      cases eh : h[i]? with
      | none => rfl
      | some nd =>
        rw [eh] at e
        cases nd <;> first | rfl | (cases e; done)
    have hd2 : dicT h y = none := by
      cases y <;> first | rfl | skip
      rename_i i
      simp only [seqV] at e
      simp only [dicT]
      cases eh : h[i]? with
      | none => rfl
      | some nd =>
        rw [eh] at e
        cases nd <;> first | rfl | (cases e; done)
    cases y <;> first | rfl | exact absurd rfl (hy _) | skip
    show (if (dicT h (.ref _)).isSome then _ else if (dicN h (.ref _)).isSome then _ else _) = _
    rw [hd, hd2]
    rfl
  rw [h1, deep_pl ha, e]
  simp only [Option.bind_some, mapO_id fun z hz => deep_pl (q z hz)]
theorem c_in_tup {a : D} (ha : pl 40 a = true) (q : ∀ z ∈ xs, pl 40 z = true) : cmpD h .In a (.tup xs) = some (xs.any fun z => eqT z a) := by
  show inD h a (.tup xs) = _
  exact inD_seq (y := .tup xs) ha q rfl (by intro s z; cases z)
theorem m_split {c : Nat} (q : c < 256 ∧ s.length + 2 ≤ lim) : mtD .split (.str s) [.str [c]] h = .ok (.lst ((splitL c s).map .str)) h := if_pos q
theorem mt_splitN {h : Hs} : mtTy h .splitN (.str s) = true := rfl
theorem m_append {k : Nat} (e : h[k]? = some (.lst xs)) (q : xs.length < lim) : mtD .append (.ref k) [x] h = .ok .non (h.set k (.lst (xs ++ [x]))) := by
  show (match h[k]? with
    | some (Nd.lst xs) => if xs.length < lim then R.ok D.non (h.set k (.lst (xs ++ [x]))) else R.bad
    | _ => R.bad) = _
  rw [e]
  exact if_pos q
theorem mt_append {h : Hs} {k : Nat} : mtTy h .append (.ref k) = isL h[k]? := rfl
theorem mt_extend {h : Hs} {k : Nat} : mtTy h .extend (.ref k) = isL h[k]? := rfl
theorem mt_part {h : Hs} : mtTy h .partition (.str s) = true := rfl
theorem mt_split {h : Hs} : mtTy h .split (.str s) = true := rfl
theorem mt_join {h : Hs} : mtTy h .join (.str s) = true := rfl
theorem sl_tup {lo hi : Option Int} : slD h (.tup xs) lo hi = some (.tup (cutL xs lo hi)) := rfl
theorem sl_lst {lo hi : Option Int} : slD h (.lst xs) lo hi = some (.lst (cutL xs lo hi)) := rfl
theorem sl_str {lo hi : Option Int} (q : s.length ≤ lim) : slD h (.str s) lo hi = some (.str (cutL s lo hi)) := if_pos q
theorem sl_ref {lo hi : Option Int} {k : Nat} (e : h[k]? = some (.lst xs)) : slD h (.ref k) lo hi = some (.lst (cutL xs lo hi)) := by
  show (lstV h (.ref k)).map _ = _
  simp only [lstV, e, Option.bind_some, seqN, Option.map_some]
end
end L2.MP
namespace L2.MP
open PySem
/-- no node, no exception, not the script -/
def tm : D → Bool
  | .ref _ => false
  | .exn _ _ => false
  | .scr _ => false
  | .kup _ => false
  | _ => true
def lets : List Nat := [97, 98, 99, 100, 101, 102, 103, 104, 105, 106, 107, 108, 109, 110, 111, 112, 113, 114, 115, 116, 117, 118, 119, 120, 121, 122]
def digs : List Nat := [48, 49, 50, 51, 52, 53, 54, 55, 56, 57]
def kwL : List (List Nat) := [[97, 98, 111, 118, 101], [97, 99, 116], [97, 102, 116, 101, 114], [97, 110, 100], [97, 110, 121], [98, 101, 99, 111, 109, 101, 115], [98, 101, 102, 111, 114, 101], [98, 101, 108, 111, 119], [101, 120, 99, 101, 112, 116], [102, 105, 114, 115, 116], [102, 111, 114], [102, 114, 111, 109], [104, 101, 114, 101], [105, 102], [105, 110], [105, 115], [108, 105, 110, 101], [109, 101, 97, 110, 115], [110, 111, 116], [110, 111, 116, 119, 105, 116, 104, 115, 116, 97, 110, 100, 105, 110, 103], [111, 102], [111, 114], [112, 108, 117, 115], [112, 117, 116], [114, 101, 112, 101, 97, 108, 101, 100], [115, 101, 99, 116, 105, 111, 110], [115, 117, 98, 106, 101, 99, 116], [116, 105, 109, 101, 115], [116, 111], [117, 110, 108, 101, 115, 115], [117, 110, 116, 105, 108], [119, 105, 116, 104, 105, 110]]
theorem mapR_mapL {α : Type} {s : Src} {f : D → Hs → R (Option D)} {h : Hs} (k g : α → D) (hc : chk s h = true) : ∀ {l : List α}, (∀ a ∈ l, f (k a) h = .ok (some (g a)) h) → mapR s f (l.map k) h = .ok (l.map g) h
  | [], _ => by
    simp only [List.map, mapR]
    rw [if_pos hc]
  | x :: xs, q => by
    simp only [List.map, mapR]
    rw [if_pos hc, q x (List.mem_cons_self ..)]
    simp only [R.bind_ok]
    rw [mapR_mapL k g hc fun y hy => q y (List.mem_cons_of_mem _ hy)]
    rfl
def Fint : Fn := ⟨1, 1, [.ret (some (.and (.isi (.var 0) [.int]) (.not (.isi (.var 0) [.bool]))))]⟩
def isInt : D → Bool
  | .int _ => true
  | _ => false
def inR (lo hi : Int) : D → Bool
  | .int i => decide (lo ≤ i) && decide (i ≤ hi)
  | _ => false
def isDay (d : D) : Bool := inR 0 9999 d
section
variable {G : Gl} {Fs : List Fn} {m f : Nat}
theorem int_ok (hm : 1 ≤ m) (hF : Fs[f]? = some Fint) {d : D} (hd : tm d = true) (h : Hs) : callN G Fs m f [d] h = .ok (.bl (isInt d)) h := by
  obtain ⟨n, rfl⟩ : ∃ n, m = n + 1 := ⟨m - 1, by omega⟩
  rw [callN_eq hF rfl]
  cases d <;> first | (simp [tm] at hd; done) | (simp (config := {implicitDefEqProofs := false}) only [evSs_nil, nx_nx, nx_rt, evS, evE, evEs, evO, evC, evI, R.bind_ok, R.bind_exc, R.q_ok, R.q_exc, R.of_some, R.nox_ok, Q.bind_nx, Q.bind_rt, Q.bind_bk, Q.bind_ct, Q.bind_exc, fin_rt, fin_nx, fin_exc, List.getElem?_cons_zero, List.getElem?_cons_succ, List.set_cons_zero, List.set_cons_succ, asgT, asgTs, lstOf, wipeS, srcOf, if_true, if_false, Bool.false_eq_true, Bool.true_eq_false, Bool.not_true, Bool.not_false, decide_true, decide_false, t_bl, t_int, t_non, t_tup, t_lst, c_lt, c_le, c_gt, c_ge, c_eqi, c_nei, c_eqs, c_nes, c_isN, c_isnN, c_isB, c_isnB, b_add, b_sub, ix_tup, ix_frz, ix_scr, at0, at1, isTys_nil, isTys_cons, ty_int_non, ty_int_bl, ty_int_int, ty_int_str, ty_int_tup, ty_int_lst, ty_int_dic, ty_bool_non, ty_bool_bl, ty_bool_int, ty_bool_str, ty_bool_tup, ty_bool_lst, ty_bool_dic, ty_str_non, ty_str_bl, ty_str_int, ty_str_str, ty_str_tup, ty_str_lst, ty_str_dic, ty_tuple_non, ty_tuple_bl, ty_tuple_int, ty_tuple_str, ty_tuple_tup, ty_tuple_lst, ty_tuple_dic, ty_list_non, ty_list_bl, ty_list_int, ty_list_str, ty_list_tup, ty_list_lst, ty_list_dic, ty_dict_non, ty_dict_bl, ty_dict_int, ty_dict_str, ty_dict_tup, ty_dict_lst, ty_dict_dic, ty_err_exn, ty_own_exn, bi_len_scr, bi_len_tup, bi_len_lst, bi_tuple_lst, bi_tuple_tup, bi_list_lst, bi_list_tup, bi_max, bi_min, mt_append, mt_part, mt_split, mt_splitN, mt_join, sl_tup, sl_lst, seqV, end_raw, Option.bind_some, Option.map_some, chk_nil, List.append_nil, okR_ok, okQ_ok, c_ins, c_nins, Int.cast_ofNat_Int, List.length_cons, List.length_nil, List.cons.injEq, and_self, and_true, true_and, and_false, false_and, Nat.zero_add, not_true_eq_false, not_false_eq_true, Bool.true_and, Bool.and_true, Bool.false_and, Bool.and_false, Bool.true_or, Bool.or_true, Bool.false_or, Bool.or_false, beq_self_eq_true, eq_self, evSs, Fint, isInt, List.map_cons, List.map_nil, List.replicate, List.cons_append, List.nil_append, Nat.reduceBEq, Int.reduceBEq, String.reduceBEq, String.reduceEq, Nat.reduceEqDiff, reduceCtorEq, Int.reduceNeg, Int.reduceLT, Int.reduceLE, Int.reduceEq, Int.reduceAdd, Int.reduceSub, Nat.reduceLT, Nat.reduceLeDiff, Nat.reduceAdd, Nat.reduceSub, Nat.reduceEqDiff])
def Fword (kw le di ml : Nat) : Fn := ⟨1, 2, [.ite (.or (.not (.isi (.var 0) [.str])) (.cmp .Eq (.var 0) (.cst (.str [])))) [.ret (some (.cst (.bl false)))] [],
  .ite (.not (.bi .all [.lc [1] (.nm 1) (.ex (.var 0)) none (.cmp .In (.var 1) (.bin .Add (.glb le) (.glb di))) false] false)) [.ret (some (.cst (.bl false)))] [],
  .ret (some (.or (.cmp .LtE (.bi .len [.var 0] false) (.glb ml)) (.cmp .In (.var 0) (.glb kw))))]⟩
def isWordS (s : List Nat) : Bool := !s.isEmpty && s.all (fun c => decide (c ∈ lets ++ digs)) && (decide (s.length ≤ 8) || kwL.any fun t => t == s)
def isWord : D → Bool
  | .str s => isWordS s
  | _ => false
/-- the module's constants -/
structure GW (G : Gl) (kw le di ml : Nat) : Prop where
  hkw : G.gls[kw]? = some (.tup (kwL.map .str))
  hle : G.gls[le]? = some (.str lets)
  hdi : G.gls[di]? = some (.str digs)
  hml : G.gls[ml]? = some (.int 8)
def shS (n : Nat) : D → Bool
  | .str s => decide (s.length < n)
  | _ => true
theorem word_ok {kw le di ml : Nat} (hm : 1 ≤ m) (hF : Fs[f]? = some (Fword kw le di ml)) (g : GW G kw le di ml) {d : D} (hd : tm d = true) (hs : shS lim d = true) (h : Hs) : callN G Fs m f [d] h = .ok (.bl (isWord d)) h := by
  obtain ⟨n, rfl⟩ : ∃ n, m = n + 1 := ⟨m - 1, by omega⟩
  rw [callN_eq hF rfl]
  cases d with
  | str s =>
    cases s with
    | nil => simp (config := {implicitDefEqProofs := false}) only [evSs_nil, nx_nx, nx_rt, evS, evE, evEs, evO, evC, evI, R.bind_ok, R.bind_exc, R.q_ok, R.q_exc, R.of_some, R.nox_ok, Q.bind_nx, Q.bind_rt, Q.bind_bk, Q.bind_ct, Q.bind_exc, fin_rt, fin_nx, fin_exc, List.getElem?_cons_zero, List.getElem?_cons_succ, List.set_cons_zero, List.set_cons_succ, asgT, asgTs, lstOf, wipeS, srcOf, if_true, if_false, Bool.false_eq_true, Bool.true_eq_false, Bool.not_true, Bool.not_false, decide_true, decide_false, t_bl, t_int, t_non, t_tup, t_lst, c_lt, c_le, c_gt, c_ge, c_eqi, c_nei, c_eqs, c_nes, c_isN, c_isnN, c_isB, c_isnB, b_add, b_sub, ix_tup, ix_frz, ix_scr, at0, at1, isTys_nil, isTys_cons, ty_int_non, ty_int_bl, ty_int_int, ty_int_str, ty_int_tup, ty_int_lst, ty_int_dic, ty_bool_non, ty_bool_bl, ty_bool_int, ty_bool_str, ty_bool_tup, ty_bool_lst, ty_bool_dic, ty_str_non, ty_str_bl, ty_str_int, ty_str_str, ty_str_tup, ty_str_lst, ty_str_dic, ty_tuple_non, ty_tuple_bl, ty_tuple_int, ty_tuple_str, ty_tuple_tup, ty_tuple_lst, ty_tuple_dic, ty_list_non, ty_list_bl, ty_list_int, ty_list_str, ty_list_tup, ty_list_lst, ty_list_dic, ty_dict_non, ty_dict_bl, ty_dict_int, ty_dict_str, ty_dict_tup, ty_dict_lst, ty_dict_dic, ty_err_exn, ty_own_exn, bi_len_scr, bi_len_tup, bi_len_lst, bi_tuple_lst, bi_tuple_tup, bi_list_lst, bi_list_tup, bi_max, bi_min, mt_append, mt_part, mt_split, mt_splitN, mt_join, sl_tup, sl_lst, seqV, end_raw, Option.bind_some, Option.map_some, chk_nil, List.append_nil, okR_ok, okQ_ok, c_ins, c_nins, Int.cast_ofNat_Int, List.length_cons, List.length_nil, List.cons.injEq, and_self, and_true, true_and, and_false, false_and, Nat.zero_add, not_true_eq_false, not_false_eq_true, Bool.true_and, Bool.and_true, Bool.false_and, Bool.and_false, Bool.true_or, Bool.or_true, Bool.false_or, Bool.or_false, beq_self_eq_true, eq_self, evSs, Fword, List.map_cons, List.map_nil, List.replicate, List.cons_append, List.nil_append, isWord, isWordS, List.isEmpty_nil, Nat.reduceBEq, Int.reduceBEq, String.reduceBEq, String.reduceEq, Nat.reduceEqDiff, reduceCtorEq, Int.reduceNeg, Int.reduceLT, Int.reduceLE, Int.reduceEq, Int.reduceAdd, Int.reduceSub, Nat.reduceLT, Nat.reduceLeDiff, Nat.reduceAdd, Nat.reduceSub, Nat.reduceEqDiff]
    | cons c s =>
      have hl : (c :: s).length < lim := of_decide_eq_true hs
      have hl2 : (c :: s).length ≤ lim := Nat.le_of_lt hl
      simp only [List.length_cons] at hl hl2
      simp (config := {implicitDefEqProofs := false}) only [evSs_nil, nx_nx, nx_rt, evS, evE, evEs, evO, evC, evI, R.bind_ok, R.bind_exc, R.q_ok, R.q_exc, R.of_some, R.nox_ok, Q.bind_nx, Q.bind_rt, Q.bind_bk, Q.bind_ct, Q.bind_exc, fin_rt, fin_nx, fin_exc, List.getElem?_cons_zero, List.getElem?_cons_succ, List.set_cons_zero, List.set_cons_succ, asgT, asgTs, lstOf, wipeS, srcOf, if_true, if_false, Bool.false_eq_true, Bool.true_eq_false, Bool.not_true, Bool.not_false, decide_true, decide_false, t_bl, t_int, t_non, t_tup, t_lst, c_lt, c_le, c_gt, c_ge, c_eqi, c_nei, c_eqs, c_nes, c_isN, c_isnN, c_isB, c_isnB, b_add, b_sub, ix_tup, ix_frz, ix_scr, at0, at1, isTys_nil, isTys_cons, ty_int_non, ty_int_bl, ty_int_int, ty_int_str, ty_int_tup, ty_int_lst, ty_int_dic, ty_bool_non, ty_bool_bl, ty_bool_int, ty_bool_str, ty_bool_tup, ty_bool_lst, ty_bool_dic, ty_str_non, ty_str_bl, ty_str_int, ty_str_str, ty_str_tup, ty_str_lst, ty_str_dic, ty_tuple_non, ty_tuple_bl, ty_tuple_int, ty_tuple_str, ty_tuple_tup, ty_tuple_lst, ty_tuple_dic, ty_list_non, ty_list_bl, ty_list_int, ty_list_str, ty_list_tup, ty_list_lst, ty_list_dic, ty_dict_non, ty_dict_bl, ty_dict_int, ty_dict_str, ty_dict_tup, ty_dict_lst, ty_dict_dic, ty_err_exn, ty_own_exn, bi_len_scr, bi_len_tup, bi_len_lst, bi_tuple_lst, bi_tuple_tup, bi_list_lst, bi_list_tup, bi_max, bi_min, mt_append, mt_part, mt_split, mt_splitN, mt_join, sl_tup, sl_lst, seqV, end_raw, Option.bind_some, Option.map_some, chk_nil, List.append_nil, okR_ok, okQ_ok, c_ins, c_nins, Int.cast_ofNat_Int, List.length_cons, List.length_nil, List.cons.injEq, and_self, and_true, true_and, and_false, false_and, Nat.zero_add, not_true_eq_false, not_false_eq_true, Bool.true_and, Bool.and_true, Bool.false_and, Bool.and_false, Bool.true_or, Bool.or_true, Bool.false_or, Bool.or_false, beq_self_eq_true, eq_self, evSs, Fword, List.map_cons, List.map_nil, List.replicate, List.cons_append, List.nil_append, List.length_map, hl, g.hle, g.hdi, b_adds (show lets.length + digs.length ≤ lim by decide), Nat.reduceBEq, Int.reduceBEq, String.reduceBEq, String.reduceEq, Nat.reduceEqDiff, reduceCtorEq, Int.reduceNeg, Int.reduceLT, Int.reduceLE, Int.reduceEq, Int.reduceAdd, Int.reduceSub, Nat.reduceLT, Nat.reduceLeDiff, Nat.reduceAdd, Nat.reduceSub, Nat.reduceEqDiff]
      rw [show D.str [c] :: List.map (fun c => D.str [c]) s = (c :: s).map (fun c => D.str [c]) from rfl]
      rw [mapR_mapL (fun c : Nat => D.str [c]) (fun c => D.bl (decide (c ∈ lets ++ digs))) rfl (fun a _ => by simp (config := {implicitDefEqProofs := false}) only [evSs_nil, nx_nx, nx_rt, evS, evE, evEs, evO, evC, evI, R.bind_ok, R.bind_exc, R.q_ok, R.q_exc, R.of_some, R.nox_ok, Q.bind_nx, Q.bind_rt, Q.bind_bk, Q.bind_ct, Q.bind_exc, fin_rt, fin_nx, fin_exc, List.getElem?_cons_zero, List.getElem?_cons_succ, List.set_cons_zero, List.set_cons_succ, asgT, asgTs, lstOf, wipeS, srcOf, if_true, if_false, Bool.false_eq_true, Bool.true_eq_false, Bool.not_true, Bool.not_false, decide_true, decide_false, t_bl, t_int, t_non, t_tup, t_lst, c_lt, c_le, c_gt, c_ge, c_eqi, c_nei, c_eqs, c_nes, c_isN, c_isnN, c_isB, c_isnB, b_add, b_sub, ix_tup, ix_frz, ix_scr, at0, at1, isTys_nil, isTys_cons, ty_int_non, ty_int_bl, ty_int_int, ty_int_str, ty_int_tup, ty_int_lst, ty_int_dic, ty_bool_non, ty_bool_bl, ty_bool_int, ty_bool_str, ty_bool_tup, ty_bool_lst, ty_bool_dic, ty_str_non, ty_str_bl, ty_str_int, ty_str_str, ty_str_tup, ty_str_lst, ty_str_dic, ty_tuple_non, ty_tuple_bl, ty_tuple_int, ty_tuple_str, ty_tuple_tup, ty_tuple_lst, ty_tuple_dic, ty_list_non, ty_list_bl, ty_list_int, ty_list_str, ty_list_tup, ty_list_lst, ty_list_dic, ty_dict_non, ty_dict_bl, ty_dict_int, ty_dict_str, ty_dict_tup, ty_dict_lst, ty_dict_dic, ty_err_exn, ty_own_exn, bi_len_scr, bi_len_tup, bi_len_lst, bi_tuple_lst, bi_tuple_tup, bi_list_lst, bi_list_tup, bi_max, bi_min, mt_append, mt_part, mt_split, mt_splitN, mt_join, sl_tup, sl_lst, seqV, end_raw, Option.bind_some, Option.map_some, chk_nil, List.append_nil, okR_ok, okQ_ok, c_ins, c_nins, Int.cast_ofNat_Int, List.length_cons, List.length_nil, List.cons.injEq, and_self, and_true, true_and, and_false, false_and, Nat.zero_add, not_true_eq_false, not_false_eq_true, Bool.true_and, Bool.and_true, Bool.false_and, Bool.and_false, Bool.true_or, Bool.or_true, Bool.false_or, Bool.or_false, beq_self_eq_true, eq_self, Nat.reduceBEq, Int.reduceBEq, String.reduceBEq, String.reduceEq, Nat.reduceEqDiff, reduceCtorEq, Int.reduceNeg, Int.reduceLT, Int.reduceLE, Int.reduceEq, Int.reduceAdd, Int.reduceSub, Nat.reduceLT, Nat.reduceLeDiff, Nat.reduceAdd, Nat.reduceSub, Nat.reduceEqDiff])]
      simp (config := {implicitDefEqProofs := false}) only [evSs_nil, nx_nx, nx_rt, evS, evE, evEs, evO, evC, evI, R.bind_ok, R.bind_exc, R.q_ok, R.q_exc, R.of_some, R.nox_ok, Q.bind_nx, Q.bind_rt, Q.bind_bk, Q.bind_ct, Q.bind_exc, fin_rt, fin_nx, fin_exc, List.getElem?_cons_zero, List.getElem?_cons_succ, List.set_cons_zero, List.set_cons_succ, asgT, asgTs, lstOf, wipeS, srcOf, if_true, if_false, Bool.false_eq_true, Bool.true_eq_false, Bool.not_true, Bool.not_false, decide_true, decide_false, t_bl, t_int, t_non, t_tup, t_lst, c_lt, c_le, c_gt, c_ge, c_eqi, c_nei, c_eqs, c_nes, c_isN, c_isnN, c_isB, c_isnB, b_add, b_sub, ix_tup, ix_frz, ix_scr, at0, at1, isTys_nil, isTys_cons, ty_int_non, ty_int_bl, ty_int_int, ty_int_str, ty_int_tup, ty_int_lst, ty_int_dic, ty_bool_non, ty_bool_bl, ty_bool_int, ty_bool_str, ty_bool_tup, ty_bool_lst, ty_bool_dic, ty_str_non, ty_str_bl, ty_str_int, ty_str_str, ty_str_tup, ty_str_lst, ty_str_dic, ty_tuple_non, ty_tuple_bl, ty_tuple_int, ty_tuple_str, ty_tuple_tup, ty_tuple_lst, ty_tuple_dic, ty_list_non, ty_list_bl, ty_list_int, ty_list_str, ty_list_tup, ty_list_lst, ty_list_dic, ty_dict_non, ty_dict_bl, ty_dict_int, ty_dict_str, ty_dict_tup, ty_dict_lst, ty_dict_dic, ty_err_exn, ty_own_exn, bi_len_scr, bi_len_tup, bi_len_lst, bi_tuple_lst, bi_tuple_tup, bi_list_lst, bi_list_tup, bi_max, bi_min, mt_append, mt_part, mt_split, mt_splitN, mt_join, sl_tup, sl_lst, seqV, end_raw, Option.bind_some, Option.map_some, chk_nil, List.append_nil, okR_ok, okQ_ok, c_ins, c_nins, Int.cast_ofNat_Int, List.length_cons, List.length_nil, List.cons.injEq, and_self, and_true, true_and, and_false, false_and, Nat.zero_add, not_true_eq_false, not_false_eq_true, Bool.true_and, Bool.and_true, Bool.false_and, Bool.and_false, Bool.true_or, Bool.or_true, Bool.false_or, Bool.or_false, beq_self_eq_true, eq_self, bi_all, Nat.reduceBEq, Int.reduceBEq, String.reduceBEq, String.reduceEq, Nat.reduceEqDiff, reduceCtorEq, Int.reduceNeg, Int.reduceLT, Int.reduceLE, Int.reduceEq, Int.reduceAdd, Int.reduceSub, Nat.reduceLT, Nat.reduceLeDiff, Nat.reduceAdd, Nat.reduceSub, Nat.reduceEqDiff]
      have pk : ∀ z ∈ kwL.map D.str, pl 40 z = true := fun z hz => by
        obtain ⟨t, _, rfl⟩ := List.mem_map.mp hz
        rfl
      have ek : ((kwL.map D.str).any fun z => eqT z (.str (c :: s))) = kwL.any fun t => t == c :: s := by
        rw [List.any_map]
        rfl
      have hw : isWord (.str (c :: s)) = ((c :: s).all (fun c => decide (c ∈ lets ++ digs)) && (decide ((c :: s).length ≤ 8) || kwL.any fun t => t == c :: s)) := by
        simp only [isWord, isWordS, List.isEmpty_cons, Bool.not_false, Bool.true_and]
      rw [hw]
      cases (c :: s).all (fun c => decide (c ∈ lets ++ digs)) with
      | false => simp (config := {implicitDefEqProofs := false}) only [evSs_nil, nx_nx, nx_rt, evS, evE, evEs, evO, evC, evI, R.bind_ok, R.bind_exc, R.q_ok, R.q_exc, R.of_some, R.nox_ok, Q.bind_nx, Q.bind_rt, Q.bind_bk, Q.bind_ct, Q.bind_exc, fin_rt, fin_nx, fin_exc, List.getElem?_cons_zero, List.getElem?_cons_succ, List.set_cons_zero, List.set_cons_succ, asgT, asgTs, lstOf, wipeS, srcOf, if_true, if_false, Bool.false_eq_true, Bool.true_eq_false, Bool.not_true, Bool.not_false, decide_true, decide_false, t_bl, t_int, t_non, t_tup, t_lst, c_lt, c_le, c_gt, c_ge, c_eqi, c_nei, c_eqs, c_nes, c_isN, c_isnN, c_isB, c_isnB, b_add, b_sub, ix_tup, ix_frz, ix_scr, at0, at1, isTys_nil, isTys_cons, ty_int_non, ty_int_bl, ty_int_int, ty_int_str, ty_int_tup, ty_int_lst, ty_int_dic, ty_bool_non, ty_bool_bl, ty_bool_int, ty_bool_str, ty_bool_tup, ty_bool_lst, ty_bool_dic, ty_str_non, ty_str_bl, ty_str_int, ty_str_str, ty_str_tup, ty_str_lst, ty_str_dic, ty_tuple_non, ty_tuple_bl, ty_tuple_int, ty_tuple_str, ty_tuple_tup, ty_tuple_lst, ty_tuple_dic, ty_list_non, ty_list_bl, ty_list_int, ty_list_str, ty_list_tup, ty_list_lst, ty_list_dic, ty_dict_non, ty_dict_bl, ty_dict_int, ty_dict_str, ty_dict_tup, ty_dict_lst, ty_dict_dic, ty_err_exn, ty_own_exn, bi_len_scr, bi_len_tup, bi_len_lst, bi_tuple_lst, bi_tuple_tup, bi_list_lst, bi_list_tup, bi_max, bi_min, mt_append, mt_part, mt_split, mt_splitN, mt_join, sl_tup, sl_lst, seqV, end_raw, Option.bind_some, Option.map_some, chk_nil, List.append_nil, okR_ok, okQ_ok, c_ins, c_nins, Int.cast_ofNat_Int, List.length_cons, List.length_nil, List.cons.injEq, and_self, and_true, true_and, and_false, false_and, Nat.zero_add, not_true_eq_false, not_false_eq_true, Bool.true_and, Bool.and_true, Bool.false_and, Bool.and_false, Bool.true_or, Bool.or_true, Bool.false_or, Bool.or_false, beq_self_eq_true, eq_self, Nat.reduceBEq, Int.reduceBEq, String.reduceBEq, String.reduceEq, Nat.reduceEqDiff, reduceCtorEq, Int.reduceNeg, Int.reduceLT, Int.reduceLE, Int.reduceEq, Int.reduceAdd, Int.reduceSub, Nat.reduceLT, Nat.reduceLeDiff, Nat.reduceAdd, Nat.reduceSub, Nat.reduceEqDiff]
      | true =>
        simp (config := {implicitDefEqProofs := false}) only [evSs_nil, nx_nx, nx_rt, evS, evE, evEs, evO, evC, evI, R.bind_ok, R.bind_exc, R.q_ok, R.q_exc, R.of_some, R.nox_ok, Q.bind_nx, Q.bind_rt, Q.bind_bk, Q.bind_ct, Q.bind_exc, fin_rt, fin_nx, fin_exc, List.getElem?_cons_zero, List.getElem?_cons_succ, List.set_cons_zero, List.set_cons_succ, asgT, asgTs, lstOf, wipeS, srcOf, if_true, if_false, Bool.false_eq_true, Bool.true_eq_false, Bool.not_true, Bool.not_false, decide_true, decide_false, t_bl, t_int, t_non, t_tup, t_lst, c_lt, c_le, c_gt, c_ge, c_eqi, c_nei, c_eqs, c_nes, c_isN, c_isnN, c_isB, c_isnB, b_add, b_sub, ix_tup, ix_frz, ix_scr, at0, at1, isTys_nil, isTys_cons, ty_int_non, ty_int_bl, ty_int_int, ty_int_str, ty_int_tup, ty_int_lst, ty_int_dic, ty_bool_non, ty_bool_bl, ty_bool_int, ty_bool_str, ty_bool_tup, ty_bool_lst, ty_bool_dic, ty_str_non, ty_str_bl, ty_str_int, ty_str_str, ty_str_tup, ty_str_lst, ty_str_dic, ty_tuple_non, ty_tuple_bl, ty_tuple_int, ty_tuple_str, ty_tuple_tup, ty_tuple_lst, ty_tuple_dic, ty_list_non, ty_list_bl, ty_list_int, ty_list_str, ty_list_tup, ty_list_lst, ty_list_dic, ty_dict_non, ty_dict_bl, ty_dict_int, ty_dict_str, ty_dict_tup, ty_dict_lst, ty_dict_dic, ty_err_exn, ty_own_exn, bi_len_scr, bi_len_tup, bi_len_lst, bi_tuple_lst, bi_tuple_tup, bi_list_lst, bi_list_tup, bi_max, bi_min, mt_append, mt_part, mt_split, mt_splitN, mt_join, sl_tup, sl_lst, seqV, end_raw, Option.bind_some, Option.map_some, chk_nil, List.append_nil, okR_ok, okQ_ok, c_ins, c_nins, Int.cast_ofNat_Int, List.length_cons, List.length_nil, List.cons.injEq, and_self, and_true, true_and, and_false, false_and, Nat.zero_add, not_true_eq_false, not_false_eq_true, Bool.true_and, Bool.and_true, Bool.false_and, Bool.and_false, Bool.true_or, Bool.or_true, Bool.false_or, Bool.or_false, beq_self_eq_true, eq_self, bi_len_str (s := c :: s) (by simpa using hl2), g.hml, g.hkw, c_in_tup (show pl 40 (.str (c :: s)) = true from rfl) pk, ek, Nat.reduceBEq, Int.reduceBEq, String.reduceBEq, String.reduceEq, Nat.reduceEqDiff, reduceCtorEq, Int.reduceNeg, Int.reduceLT, Int.reduceLE, Int.reduceEq, Int.reduceAdd, Int.reduceSub, Nat.reduceLT, Nat.reduceLeDiff, Nat.reduceAdd, Nat.reduceSub, Nat.reduceEqDiff]
        by_cases h8 : s.length + 1 ≤ 8
        · have h9 : ((s.length + 1 : Nat) : Int) ≤ 8 := by omega
          simp (config := {implicitDefEqProofs := false}) only [evSs_nil, nx_nx, nx_rt, evS, evE, evEs, evO, evC, evI, R.bind_ok, R.bind_exc, R.q_ok, R.q_exc, R.of_some, R.nox_ok, Q.bind_nx, Q.bind_rt, Q.bind_bk, Q.bind_ct, Q.bind_exc, fin_rt, fin_nx, fin_exc, List.getElem?_cons_zero, List.getElem?_cons_succ, List.set_cons_zero, List.set_cons_succ, asgT, asgTs, lstOf, wipeS, srcOf, if_true, if_false, Bool.false_eq_true, Bool.true_eq_false, Bool.not_true, Bool.not_false, decide_true, decide_false, t_bl, t_int, t_non, t_tup, t_lst, c_lt, c_le, c_gt, c_ge, c_eqi, c_nei, c_eqs, c_nes, c_isN, c_isnN, c_isB, c_isnB, b_add, b_sub, ix_tup, ix_frz, ix_scr, at0, at1, isTys_nil, isTys_cons, ty_int_non, ty_int_bl, ty_int_int, ty_int_str, ty_int_tup, ty_int_lst, ty_int_dic, ty_bool_non, ty_bool_bl, ty_bool_int, ty_bool_str, ty_bool_tup, ty_bool_lst, ty_bool_dic, ty_str_non, ty_str_bl, ty_str_int, ty_str_str, ty_str_tup, ty_str_lst, ty_str_dic, ty_tuple_non, ty_tuple_bl, ty_tuple_int, ty_tuple_str, ty_tuple_tup, ty_tuple_lst, ty_tuple_dic, ty_list_non, ty_list_bl, ty_list_int, ty_list_str, ty_list_tup, ty_list_lst, ty_list_dic, ty_dict_non, ty_dict_bl, ty_dict_int, ty_dict_str, ty_dict_tup, ty_dict_lst, ty_dict_dic, ty_err_exn, ty_own_exn, bi_len_scr, bi_len_tup, bi_len_lst, bi_tuple_lst, bi_tuple_tup, bi_list_lst, bi_list_tup, bi_max, bi_min, mt_append, mt_part, mt_split, mt_splitN, mt_join, sl_tup, sl_lst, seqV, end_raw, Option.bind_some, Option.map_some, chk_nil, List.append_nil, okR_ok, okQ_ok, c_ins, c_nins, Int.cast_ofNat_Int, List.length_cons, List.length_nil, List.cons.injEq, and_self, and_true, true_and, and_false, false_and, Nat.zero_add, not_true_eq_false, not_false_eq_true, Bool.true_and, Bool.and_true, Bool.false_and, Bool.and_false, Bool.true_or, Bool.or_true, Bool.false_or, Bool.or_false, beq_self_eq_true, eq_self, h8, h9, show s.length ≤ 7 by omega, Nat.reduceBEq, Int.reduceBEq, String.reduceBEq, String.reduceEq, Nat.reduceEqDiff, reduceCtorEq, Int.reduceNeg, Int.reduceLT, Int.reduceLE, Int.reduceEq, Int.reduceAdd, Int.reduceSub, Nat.reduceLT, Nat.reduceLeDiff, Nat.reduceAdd, Nat.reduceSub, Nat.reduceEqDiff]
        · have h9 : ¬ ((s.length + 1 : Nat) : Int) ≤ 8 := by omega
          simp (config := {implicitDefEqProofs := false}) only [evSs_nil, nx_nx, nx_rt, evS, evE, evEs, evO, evC, evI, R.bind_ok, R.bind_exc, R.q_ok, R.q_exc, R.of_some, R.nox_ok, Q.bind_nx, Q.bind_rt, Q.bind_bk, Q.bind_ct, Q.bind_exc, fin_rt, fin_nx, fin_exc, List.getElem?_cons_zero, List.getElem?_cons_succ, List.set_cons_zero, List.set_cons_succ, asgT, asgTs, lstOf, wipeS, srcOf, if_true, if_false, Bool.false_eq_true, Bool.true_eq_false, Bool.not_true, Bool.not_false, decide_true, decide_false, t_bl, t_int, t_non, t_tup, t_lst, c_lt, c_le, c_gt, c_ge, c_eqi, c_nei, c_eqs, c_nes, c_isN, c_isnN, c_isB, c_isnB, b_add, b_sub, ix_tup, ix_frz, ix_scr, at0, at1, isTys_nil, isTys_cons, ty_int_non, ty_int_bl, ty_int_int, ty_int_str, ty_int_tup, ty_int_lst, ty_int_dic, ty_bool_non, ty_bool_bl, ty_bool_int, ty_bool_str, ty_bool_tup, ty_bool_lst, ty_bool_dic, ty_str_non, ty_str_bl, ty_str_int, ty_str_str, ty_str_tup, ty_str_lst, ty_str_dic, ty_tuple_non, ty_tuple_bl, ty_tuple_int, ty_tuple_str, ty_tuple_tup, ty_tuple_lst, ty_tuple_dic, ty_list_non, ty_list_bl, ty_list_int, ty_list_str, ty_list_tup, ty_list_lst, ty_list_dic, ty_dict_non, ty_dict_bl, ty_dict_int, ty_dict_str, ty_dict_tup, ty_dict_lst, ty_dict_dic, ty_err_exn, ty_own_exn, bi_len_scr, bi_len_tup, bi_len_lst, bi_tuple_lst, bi_tuple_tup, bi_list_lst, bi_list_tup, bi_max, bi_min, mt_append, mt_part, mt_split, mt_splitN, mt_join, sl_tup, sl_lst, seqV, end_raw, Option.bind_some, Option.map_some, chk_nil, List.append_nil, okR_ok, okQ_ok, c_ins, c_nins, Int.cast_ofNat_Int, List.length_cons, List.length_nil, List.cons.injEq, and_self, and_true, true_and, and_false, false_and, Nat.zero_add, not_true_eq_false, not_false_eq_true, Bool.true_and, Bool.and_true, Bool.false_and, Bool.and_false, Bool.true_or, Bool.or_true, Bool.false_or, Bool.or_false, beq_self_eq_true, eq_self, h8, h9, show ¬ s.length ≤ 7 by omega, Nat.reduceBEq, Int.reduceBEq, String.reduceBEq, String.reduceEq, Nat.reduceEqDiff, reduceCtorEq, Int.reduceNeg, Int.reduceLT, Int.reduceLE, Int.reduceEq, Int.reduceAdd, Int.reduceSub, Nat.reduceLT, Nat.reduceLeDiff, Nat.reduceAdd, Nat.reduceSub, Nat.reduceEqDiff]
  | _ => first | (simp [tm] at hd; done) | (simp (config := {implicitDefEqProofs := false}) only [evSs_nil, nx_nx, nx_rt, evS, evE, evEs, evO, evC, evI, R.bind_ok, R.bind_exc, R.q_ok, R.q_exc, R.of_some, R.nox_ok, Q.bind_nx, Q.bind_rt, Q.bind_bk, Q.bind_ct, Q.bind_exc, fin_rt, fin_nx, fin_exc, List.getElem?_cons_zero, List.getElem?_cons_succ, List.set_cons_zero, List.set_cons_succ, asgT, asgTs, lstOf, wipeS, srcOf, if_true, if_false, Bool.false_eq_true, Bool.true_eq_false, Bool.not_true, Bool.not_false, decide_true, decide_false, t_bl, t_int, t_non, t_tup, t_lst, c_lt, c_le, c_gt, c_ge, c_eqi, c_nei, c_eqs, c_nes, c_isN, c_isnN, c_isB, c_isnB, b_add, b_sub, ix_tup, ix_frz, ix_scr, at0, at1, isTys_nil, isTys_cons, ty_int_non, ty_int_bl, ty_int_int, ty_int_str, ty_int_tup, ty_int_lst, ty_int_dic, ty_bool_non, ty_bool_bl, ty_bool_int, ty_bool_str, ty_bool_tup, ty_bool_lst, ty_bool_dic, ty_str_non, ty_str_bl, ty_str_int, ty_str_str, ty_str_tup, ty_str_lst, ty_str_dic, ty_tuple_non, ty_tuple_bl, ty_tuple_int, ty_tuple_str, ty_tuple_tup, ty_tuple_lst, ty_tuple_dic, ty_list_non, ty_list_bl, ty_list_int, ty_list_str, ty_list_tup, ty_list_lst, ty_list_dic, ty_dict_non, ty_dict_bl, ty_dict_int, ty_dict_str, ty_dict_tup, ty_dict_lst, ty_dict_dic, ty_err_exn, ty_own_exn, bi_len_scr, bi_len_tup, bi_len_lst, bi_tuple_lst, bi_tuple_tup, bi_list_lst, bi_list_tup, bi_max, bi_min, mt_append, mt_part, mt_split, mt_splitN, mt_join, sl_tup, sl_lst, seqV, end_raw, Option.bind_some, Option.map_some, chk_nil, List.append_nil, okR_ok, okQ_ok, c_ins, c_nins, Int.cast_ofNat_Int, List.length_cons, List.length_nil, List.cons.injEq, and_self, and_true, true_and, and_false, false_and, Nat.zero_add, not_true_eq_false, not_false_eq_true, Bool.true_and, Bool.and_true, Bool.false_and, Bool.and_false, Bool.true_or, Bool.or_true, Bool.false_or, Bool.or_false, beq_self_eq_true, eq_self, evSs, Fword, isWord, List.map_cons, List.map_nil, List.replicate, List.cons_append, List.nil_append, Nat.reduceBEq, Int.reduceBEq, String.reduceBEq, String.reduceEq, Nat.reduceEqDiff, reduceCtorEq, Int.reduceNeg, Int.reduceLT, Int.reduceLE, Int.reduceEq, Int.reduceAdd, Int.reduceSub, Nat.reduceLT, Nat.reduceLeDiff, Nat.reduceAdd, Nat.reduceSub, Nat.reduceEqDiff])
def Fwl (fw gm : Nat) : Fn := ⟨1, 2, [.ret (some (.and (.isi (.var 0) [.list]) (.and (.chn .LtE .LtE (.cst (.int 1)) (.bi .len [.var 0] false) (.glb gm)) (.bi .all [.lc [1] (.nm 1) (.ex (.var 0)) none (.call fw [.var 1] .pure) false] false))))]⟩
def Fline (fl : Nat) : Fn := ⟨1, 1, [.ret (some (.and (.isi (.var 0) [.str]) (.call fl [.mt .split (.var 0) [.cst (.str [32])]] .pure)))]⟩
def Fsplit (fl c : Nat) (mm : MT) : Fn := ⟨1, 1, [.ite (.not (.call fl [.var 0] .pure)) [.rais c []] [], .ret (some (.mt mm (.var 0) [.cst (.str [32])]))]⟩
def isWL (ws : List (List Nat)) : Bool := decide (1 ≤ ws.length) && decide (ws.length ≤ 24) && ws.all isWordS
def isLineS (s : List Nat) : Bool := isWL (splitL 32 s)
def isLine : D → Bool
  | .str s => isLineS s
  | _ => false
theorem split_len {c : Nat} : ∀ {s : List Nat}, 1 ≤ (splitL c s).length ∧ (splitL c s).length ≤ s.length + 1 ∧ ∀ w ∈ splitL c s, w.length ≤ s.length
  | [] => by simp [splitL]
  | x :: s => by
    obtain ⟨h1, h2, h3⟩ := split_len (c := c) (s := s)
    by_cases e : x = c
    · simp only [splitL, if_pos e]
      refine ⟨by simp, by simp; exact h2, fun w hw => ?_⟩
      rcases List.mem_cons.mp hw with rfl | hw
      · simp
      · have := h3 w hw
        simp; omega
    · simp only [splitL, if_neg e]
      cases q : splitL c s with
      | nil => rw [q] at h1; simp at h1
      | cons w ws =>
        rw [q] at h2 h3
        refine ⟨by simp, by simp at h2 ⊢; omega, fun v hv => ?_⟩
        rcases List.mem_cons.mp hv with rfl | hv
        · have := h3 w (List.mem_cons_self ..)
          simp; omega
        · have := h3 v (List.mem_cons_of_mem _ hv)
          simp; omega
structure GL (G : Gl) (Fs : List Fn) (kw le di ml gm fw fwl : Nat) : Prop extends GW G kw le di ml where
  hgm : G.gls[gm]? = some (.int 24)
  hfw : Fs[fw]? = some (Fword kw le di ml)
  hfwl : Fs[fwl]? = some (Fwl fw gm)
section
variable {kw le di ml gm fw fwl fln : Nat}
theorem wl_ok (hm : 2 ≤ m) (g : GL G Fs kw le di ml gm fw fwl) {ws : List (List Nat)} (hl : ws.length < lim) (hs : ∀ w ∈ ws, w.length < lim) (h : Hs) : callN G Fs m fwl [.lst (ws.map .str)] h = .ok (.bl (isWL ws)) h := by
  obtain ⟨n, rfl⟩ : ∃ n, m = n + 1 := ⟨m - 1, by omega⟩
  rw [callN_eq g.hfwl rfl]
  have e1 : (1 : Int) ≤ ((ws.map D.str).length : Nat) ↔ 1 ≤ ws.length := by rw [List.length_map]; omega
  have e2 : ((ws.map D.str).length : Int) ≤ 24 ↔ ws.length ≤ 24 := by rw [List.length_map]; omega
  simp (config := {implicitDefEqProofs := false}) only [evSs_nil, nx_nx, nx_rt, evS, evE, evEs, evO, evC, evI, R.bind_ok, R.bind_exc, R.q_ok, R.q_exc, R.of_some, R.nox_ok, Q.bind_nx, Q.bind_rt, Q.bind_bk, Q.bind_ct, Q.bind_exc, fin_rt, fin_nx, fin_exc, List.getElem?_cons_zero, List.getElem?_cons_succ, List.set_cons_zero, List.set_cons_succ, asgT, asgTs, lstOf, wipeS, srcOf, if_true, if_false, Bool.false_eq_true, Bool.true_eq_false, Bool.not_true, Bool.not_false, decide_true, decide_false, t_bl, t_int, t_non, t_tup, t_lst, c_lt, c_le, c_gt, c_ge, c_eqi, c_nei, c_eqs, c_nes, c_isN, c_isnN, c_isB, c_isnB, b_add, b_sub, ix_tup, ix_frz, ix_scr, at0, at1, isTys_nil, isTys_cons, ty_int_non, ty_int_bl, ty_int_int, ty_int_str, ty_int_tup, ty_int_lst, ty_int_dic, ty_bool_non, ty_bool_bl, ty_bool_int, ty_bool_str, ty_bool_tup, ty_bool_lst, ty_bool_dic, ty_str_non, ty_str_bl, ty_str_int, ty_str_str, ty_str_tup, ty_str_lst, ty_str_dic, ty_tuple_non, ty_tuple_bl, ty_tuple_int, ty_tuple_str, ty_tuple_tup, ty_tuple_lst, ty_tuple_dic, ty_list_non, ty_list_bl, ty_list_int, ty_list_str, ty_list_tup, ty_list_lst, ty_list_dic, ty_dict_non, ty_dict_bl, ty_dict_int, ty_dict_str, ty_dict_tup, ty_dict_lst, ty_dict_dic, ty_err_exn, ty_own_exn, bi_len_scr, bi_len_tup, bi_len_lst, bi_tuple_lst, bi_tuple_tup, bi_list_lst, bi_list_tup, bi_max, bi_min, mt_append, mt_part, mt_split, mt_splitN, mt_join, sl_tup, sl_lst, seqV, end_raw, Option.bind_some, Option.map_some, chk_nil, List.append_nil, okR_ok, okQ_ok, c_ins, c_nins, Int.cast_ofNat_Int, List.length_cons, List.length_nil, List.cons.injEq, and_self, and_true, true_and, and_false, false_and, Nat.zero_add, not_true_eq_false, not_false_eq_true, Bool.true_and, Bool.and_true, Bool.false_and, Bool.and_false, Bool.true_or, Bool.or_true, Bool.false_or, Bool.or_false, beq_self_eq_true, eq_self, evSs, Fwl, List.map_cons, List.map_nil, List.replicate, List.cons_append, List.nil_append, g.hgm, e1, e2, isWL, Nat.reduceBEq, Int.reduceBEq, String.reduceBEq, String.reduceEq, Nat.reduceEqDiff, reduceCtorEq, Int.reduceNeg, Int.reduceLT, Int.reduceLE, Int.reduceEq, Int.reduceAdd, Int.reduceSub, Nat.reduceLT, Nat.reduceLeDiff, Nat.reduceAdd, Nat.reduceSub, Nat.reduceEqDiff]
  by_cases h1 : 1 ≤ ws.length
  · simp (config := {implicitDefEqProofs := false}) only [evSs_nil, nx_nx, nx_rt, evS, evE, evEs, evO, evC, evI, R.bind_ok, R.bind_exc, R.q_ok, R.q_exc, R.of_some, R.nox_ok, Q.bind_nx, Q.bind_rt, Q.bind_bk, Q.bind_ct, Q.bind_exc, fin_rt, fin_nx, fin_exc, List.getElem?_cons_zero, List.getElem?_cons_succ, List.set_cons_zero, List.set_cons_succ, asgT, asgTs, lstOf, wipeS, srcOf, if_true, if_false, Bool.false_eq_true, Bool.true_eq_false, Bool.not_true, Bool.not_false, decide_true, decide_false, t_bl, t_int, t_non, t_tup, t_lst, c_lt, c_le, c_gt, c_ge, c_eqi, c_nei, c_eqs, c_nes, c_isN, c_isnN, c_isB, c_isnB, b_add, b_sub, ix_tup, ix_frz, ix_scr, at0, at1, isTys_nil, isTys_cons, ty_int_non, ty_int_bl, ty_int_int, ty_int_str, ty_int_tup, ty_int_lst, ty_int_dic, ty_bool_non, ty_bool_bl, ty_bool_int, ty_bool_str, ty_bool_tup, ty_bool_lst, ty_bool_dic, ty_str_non, ty_str_bl, ty_str_int, ty_str_str, ty_str_tup, ty_str_lst, ty_str_dic, ty_tuple_non, ty_tuple_bl, ty_tuple_int, ty_tuple_str, ty_tuple_tup, ty_tuple_lst, ty_tuple_dic, ty_list_non, ty_list_bl, ty_list_int, ty_list_str, ty_list_tup, ty_list_lst, ty_list_dic, ty_dict_non, ty_dict_bl, ty_dict_int, ty_dict_str, ty_dict_tup, ty_dict_lst, ty_dict_dic, ty_err_exn, ty_own_exn, bi_len_scr, bi_len_tup, bi_len_lst, bi_tuple_lst, bi_tuple_tup, bi_list_lst, bi_list_tup, bi_max, bi_min, mt_append, mt_part, mt_split, mt_splitN, mt_join, sl_tup, sl_lst, seqV, end_raw, Option.bind_some, Option.map_some, chk_nil, List.append_nil, okR_ok, okQ_ok, c_ins, c_nins, Int.cast_ofNat_Int, List.length_cons, List.length_nil, List.cons.injEq, and_self, and_true, true_and, and_false, false_and, Nat.zero_add, not_true_eq_false, not_false_eq_true, Bool.true_and, Bool.and_true, Bool.false_and, Bool.and_false, Bool.true_or, Bool.or_true, Bool.false_or, Bool.or_false, beq_self_eq_true, eq_self, h1, Nat.reduceBEq, Int.reduceBEq, String.reduceBEq, String.reduceEq, Nat.reduceEqDiff, reduceCtorEq, Int.reduceNeg, Int.reduceLT, Int.reduceLE, Int.reduceEq, Int.reduceAdd, Int.reduceSub, Nat.reduceLT, Nat.reduceLeDiff, Nat.reduceAdd, Nat.reduceSub, Nat.reduceEqDiff]
    by_cases h2 : ws.length ≤ 24
    · simp (config := {implicitDefEqProofs := false}) only [evSs_nil, nx_nx, nx_rt, evS, evE, evEs, evO, evC, evI, R.bind_ok, R.bind_exc, R.q_ok, R.q_exc, R.of_some, R.nox_ok, Q.bind_nx, Q.bind_rt, Q.bind_bk, Q.bind_ct, Q.bind_exc, fin_rt, fin_nx, fin_exc, List.getElem?_cons_zero, List.getElem?_cons_succ, List.set_cons_zero, List.set_cons_succ, asgT, asgTs, lstOf, wipeS, srcOf, if_true, if_false, Bool.false_eq_true, Bool.true_eq_false, Bool.not_true, Bool.not_false, decide_true, decide_false, t_bl, t_int, t_non, t_tup, t_lst, c_lt, c_le, c_gt, c_ge, c_eqi, c_nei, c_eqs, c_nes, c_isN, c_isnN, c_isB, c_isnB, b_add, b_sub, ix_tup, ix_frz, ix_scr, at0, at1, isTys_nil, isTys_cons, ty_int_non, ty_int_bl, ty_int_int, ty_int_str, ty_int_tup, ty_int_lst, ty_int_dic, ty_bool_non, ty_bool_bl, ty_bool_int, ty_bool_str, ty_bool_tup, ty_bool_lst, ty_bool_dic, ty_str_non, ty_str_bl, ty_str_int, ty_str_str, ty_str_tup, ty_str_lst, ty_str_dic, ty_tuple_non, ty_tuple_bl, ty_tuple_int, ty_tuple_str, ty_tuple_tup, ty_tuple_lst, ty_tuple_dic, ty_list_non, ty_list_bl, ty_list_int, ty_list_str, ty_list_tup, ty_list_lst, ty_list_dic, ty_dict_non, ty_dict_bl, ty_dict_int, ty_dict_str, ty_dict_tup, ty_dict_lst, ty_dict_dic, ty_err_exn, ty_own_exn, bi_len_scr, bi_len_tup, bi_len_lst, bi_tuple_lst, bi_tuple_tup, bi_list_lst, bi_list_tup, bi_max, bi_min, mt_append, mt_part, mt_split, mt_splitN, mt_join, sl_tup, sl_lst, seqV, end_raw, Option.bind_some, Option.map_some, chk_nil, List.append_nil, okR_ok, okQ_ok, c_ins, c_nins, Int.cast_ofNat_Int, List.length_cons, List.length_nil, List.cons.injEq, and_self, and_true, true_and, and_false, false_and, Nat.zero_add, not_true_eq_false, not_false_eq_true, Bool.true_and, Bool.and_true, Bool.false_and, Bool.and_false, Bool.true_or, Bool.or_true, Bool.false_or, Bool.or_false, beq_self_eq_true, eq_self, h2, List.length_map, hl, Nat.reduceBEq, Int.reduceBEq, String.reduceBEq, String.reduceEq, Nat.reduceEqDiff, reduceCtorEq, Int.reduceNeg, Int.reduceLT, Int.reduceLE, Int.reduceEq, Int.reduceAdd, Int.reduceSub, Nat.reduceLT, Nat.reduceLeDiff, Nat.reduceAdd, Nat.reduceSub, Nat.reduceEqDiff]
      rw [mapR_mapL (fun w => D.str w) (fun w => D.bl (isWordS w)) rfl]
      · simp (config := {implicitDefEqProofs := false}) only [evSs_nil, nx_nx, nx_rt, evS, evE, evEs, evO, evC, evI, R.bind_ok, R.bind_exc, R.q_ok, R.q_exc, R.of_some, R.nox_ok, Q.bind_nx, Q.bind_rt, Q.bind_bk, Q.bind_ct, Q.bind_exc, fin_rt, fin_nx, fin_exc, List.getElem?_cons_zero, List.getElem?_cons_succ, List.set_cons_zero, List.set_cons_succ, asgT, asgTs, lstOf, wipeS, srcOf, if_true, if_false, Bool.false_eq_true, Bool.true_eq_false, Bool.not_true, Bool.not_false, decide_true, decide_false, t_bl, t_int, t_non, t_tup, t_lst, c_lt, c_le, c_gt, c_ge, c_eqi, c_nei, c_eqs, c_nes, c_isN, c_isnN, c_isB, c_isnB, b_add, b_sub, ix_tup, ix_frz, ix_scr, at0, at1, isTys_nil, isTys_cons, ty_int_non, ty_int_bl, ty_int_int, ty_int_str, ty_int_tup, ty_int_lst, ty_int_dic, ty_bool_non, ty_bool_bl, ty_bool_int, ty_bool_str, ty_bool_tup, ty_bool_lst, ty_bool_dic, ty_str_non, ty_str_bl, ty_str_int, ty_str_str, ty_str_tup, ty_str_lst, ty_str_dic, ty_tuple_non, ty_tuple_bl, ty_tuple_int, ty_tuple_str, ty_tuple_tup, ty_tuple_lst, ty_tuple_dic, ty_list_non, ty_list_bl, ty_list_int, ty_list_str, ty_list_tup, ty_list_lst, ty_list_dic, ty_dict_non, ty_dict_bl, ty_dict_int, ty_dict_str, ty_dict_tup, ty_dict_lst, ty_dict_dic, ty_err_exn, ty_own_exn, bi_len_scr, bi_len_tup, bi_len_lst, bi_tuple_lst, bi_tuple_tup, bi_list_lst, bi_list_tup, bi_max, bi_min, mt_append, mt_part, mt_split, mt_splitN, mt_join, sl_tup, sl_lst, seqV, end_raw, Option.bind_some, Option.map_some, chk_nil, List.append_nil, okR_ok, okQ_ok, c_ins, c_nins, Int.cast_ofNat_Int, List.length_cons, List.length_nil, List.cons.injEq, and_self, and_true, true_and, and_false, false_and, Nat.zero_add, not_true_eq_false, not_false_eq_true, Bool.true_and, Bool.and_true, Bool.false_and, Bool.and_false, Bool.true_or, Bool.or_true, Bool.false_or, Bool.or_false, beq_self_eq_true, eq_self, bi_all, Nat.reduceBEq, Int.reduceBEq, String.reduceBEq, String.reduceEq, Nat.reduceEqDiff, reduceCtorEq, Int.reduceNeg, Int.reduceLT, Int.reduceLE, Int.reduceEq, Int.reduceAdd, Int.reduceSub, Nat.reduceLT, Nat.reduceLeDiff, Nat.reduceAdd, Nat.reduceSub, Nat.reduceEqDiff]
      · intro w hw
        simp (config := {implicitDefEqProofs := false}) only [evSs_nil, nx_nx, nx_rt, evS, evE, evEs, evO, evC, evI, R.bind_ok, R.bind_exc, R.q_ok, R.q_exc, R.of_some, R.nox_ok, Q.bind_nx, Q.bind_rt, Q.bind_bk, Q.bind_ct, Q.bind_exc, fin_rt, fin_nx, fin_exc, List.getElem?_cons_zero, List.getElem?_cons_succ, List.set_cons_zero, List.set_cons_succ, asgT, asgTs, lstOf, wipeS, srcOf, if_true, if_false, Bool.false_eq_true, Bool.true_eq_false, Bool.not_true, Bool.not_false, decide_true, decide_false, t_bl, t_int, t_non, t_tup, t_lst, c_lt, c_le, c_gt, c_ge, c_eqi, c_nei, c_eqs, c_nes, c_isN, c_isnN, c_isB, c_isnB, b_add, b_sub, ix_tup, ix_frz, ix_scr, at0, at1, isTys_nil, isTys_cons, ty_int_non, ty_int_bl, ty_int_int, ty_int_str, ty_int_tup, ty_int_lst, ty_int_dic, ty_bool_non, ty_bool_bl, ty_bool_int, ty_bool_str, ty_bool_tup, ty_bool_lst, ty_bool_dic, ty_str_non, ty_str_bl, ty_str_int, ty_str_str, ty_str_tup, ty_str_lst, ty_str_dic, ty_tuple_non, ty_tuple_bl, ty_tuple_int, ty_tuple_str, ty_tuple_tup, ty_tuple_lst, ty_tuple_dic, ty_list_non, ty_list_bl, ty_list_int, ty_list_str, ty_list_tup, ty_list_lst, ty_list_dic, ty_dict_non, ty_dict_bl, ty_dict_int, ty_dict_str, ty_dict_tup, ty_dict_lst, ty_dict_dic, ty_err_exn, ty_own_exn, bi_len_scr, bi_len_tup, bi_len_lst, bi_tuple_lst, bi_tuple_tup, bi_list_lst, bi_list_tup, bi_max, bi_min, mt_append, mt_part, mt_split, mt_splitN, mt_join, sl_tup, sl_lst, seqV, end_raw, Option.bind_some, Option.map_some, chk_nil, List.append_nil, okR_ok, okQ_ok, c_ins, c_nins, Int.cast_ofNat_Int, List.length_cons, List.length_nil, List.cons.injEq, and_self, and_true, true_and, and_false, false_and, Nat.zero_add, not_true_eq_false, not_false_eq_true, Bool.true_and, Bool.and_true, Bool.false_and, Bool.and_false, Bool.true_or, Bool.or_true, Bool.false_or, Bool.or_false, beq_self_eq_true, eq_self, word_ok (show 1 ≤ n by omega) g.hfw g.toGW (d := .str w) rfl (decide_eq_true (hs w hw)), end_pure0 (show pl 40 (.bl (isWordS w)) = true from rfl), isWord, Nat.reduceBEq, Int.reduceBEq, String.reduceBEq, String.reduceEq, Nat.reduceEqDiff, reduceCtorEq, Int.reduceNeg, Int.reduceLT, Int.reduceLE, Int.reduceEq, Int.reduceAdd, Int.reduceSub, Nat.reduceLT, Nat.reduceLeDiff, Nat.reduceAdd, Nat.reduceSub, Nat.reduceEqDiff]
    · simp (config := {implicitDefEqProofs := false}) only [evSs_nil, nx_nx, nx_rt, evS, evE, evEs, evO, evC, evI, R.bind_ok, R.bind_exc, R.q_ok, R.q_exc, R.of_some, R.nox_ok, Q.bind_nx, Q.bind_rt, Q.bind_bk, Q.bind_ct, Q.bind_exc, fin_rt, fin_nx, fin_exc, List.getElem?_cons_zero, List.getElem?_cons_succ, List.set_cons_zero, List.set_cons_succ, asgT, asgTs, lstOf, wipeS, srcOf, if_true, if_false, Bool.false_eq_true, Bool.true_eq_false, Bool.not_true, Bool.not_false, decide_true, decide_false, t_bl, t_int, t_non, t_tup, t_lst, c_lt, c_le, c_gt, c_ge, c_eqi, c_nei, c_eqs, c_nes, c_isN, c_isnN, c_isB, c_isnB, b_add, b_sub, ix_tup, ix_frz, ix_scr, at0, at1, isTys_nil, isTys_cons, ty_int_non, ty_int_bl, ty_int_int, ty_int_str, ty_int_tup, ty_int_lst, ty_int_dic, ty_bool_non, ty_bool_bl, ty_bool_int, ty_bool_str, ty_bool_tup, ty_bool_lst, ty_bool_dic, ty_str_non, ty_str_bl, ty_str_int, ty_str_str, ty_str_tup, ty_str_lst, ty_str_dic, ty_tuple_non, ty_tuple_bl, ty_tuple_int, ty_tuple_str, ty_tuple_tup, ty_tuple_lst, ty_tuple_dic, ty_list_non, ty_list_bl, ty_list_int, ty_list_str, ty_list_tup, ty_list_lst, ty_list_dic, ty_dict_non, ty_dict_bl, ty_dict_int, ty_dict_str, ty_dict_tup, ty_dict_lst, ty_dict_dic, ty_err_exn, ty_own_exn, bi_len_scr, bi_len_tup, bi_len_lst, bi_tuple_lst, bi_tuple_tup, bi_list_lst, bi_list_tup, bi_max, bi_min, mt_append, mt_part, mt_split, mt_splitN, mt_join, sl_tup, sl_lst, seqV, end_raw, Option.bind_some, Option.map_some, chk_nil, List.append_nil, okR_ok, okQ_ok, c_ins, c_nins, Int.cast_ofNat_Int, List.length_cons, List.length_nil, List.cons.injEq, and_self, and_true, true_and, and_false, false_and, Nat.zero_add, not_true_eq_false, not_false_eq_true, Bool.true_and, Bool.and_true, Bool.false_and, Bool.and_false, Bool.true_or, Bool.or_true, Bool.false_or, Bool.or_false, beq_self_eq_true, eq_self, h2, Nat.reduceBEq, Int.reduceBEq, String.reduceBEq, String.reduceEq, Nat.reduceEqDiff, reduceCtorEq, Int.reduceNeg, Int.reduceLT, Int.reduceLE, Int.reduceEq, Int.reduceAdd, Int.reduceSub, Nat.reduceLT, Nat.reduceLeDiff, Nat.reduceAdd, Nat.reduceSub, Nat.reduceEqDiff]
  · simp (config := {implicitDefEqProofs := false}) only [evSs_nil, nx_nx, nx_rt, evS, evE, evEs, evO, evC, evI, R.bind_ok, R.bind_exc, R.q_ok, R.q_exc, R.of_some, R.nox_ok, Q.bind_nx, Q.bind_rt, Q.bind_bk, Q.bind_ct, Q.bind_exc, fin_rt, fin_nx, fin_exc, List.getElem?_cons_zero, List.getElem?_cons_succ, List.set_cons_zero, List.set_cons_succ, asgT, asgTs, lstOf, wipeS, srcOf, if_true, if_false, Bool.false_eq_true, Bool.true_eq_false, Bool.not_true, Bool.not_false, decide_true, decide_false, t_bl, t_int, t_non, t_tup, t_lst, c_lt, c_le, c_gt, c_ge, c_eqi, c_nei, c_eqs, c_nes, c_isN, c_isnN, c_isB, c_isnB, b_add, b_sub, ix_tup, ix_frz, ix_scr, at0, at1, isTys_nil, isTys_cons, ty_int_non, ty_int_bl, ty_int_int, ty_int_str, ty_int_tup, ty_int_lst, ty_int_dic, ty_bool_non, ty_bool_bl, ty_bool_int, ty_bool_str, ty_bool_tup, ty_bool_lst, ty_bool_dic, ty_str_non, ty_str_bl, ty_str_int, ty_str_str, ty_str_tup, ty_str_lst, ty_str_dic, ty_tuple_non, ty_tuple_bl, ty_tuple_int, ty_tuple_str, ty_tuple_tup, ty_tuple_lst, ty_tuple_dic, ty_list_non, ty_list_bl, ty_list_int, ty_list_str, ty_list_tup, ty_list_lst, ty_list_dic, ty_dict_non, ty_dict_bl, ty_dict_int, ty_dict_str, ty_dict_tup, ty_dict_lst, ty_dict_dic, ty_err_exn, ty_own_exn, bi_len_scr, bi_len_tup, bi_len_lst, bi_tuple_lst, bi_tuple_tup, bi_list_lst, bi_list_tup, bi_max, bi_min, mt_append, mt_part, mt_split, mt_splitN, mt_join, sl_tup, sl_lst, seqV, end_raw, Option.bind_some, Option.map_some, chk_nil, List.append_nil, okR_ok, okQ_ok, c_ins, c_nins, Int.cast_ofNat_Int, List.length_cons, List.length_nil, List.cons.injEq, and_self, and_true, true_and, and_false, false_and, Nat.zero_add, not_true_eq_false, not_false_eq_true, Bool.true_and, Bool.and_true, Bool.false_and, Bool.and_false, Bool.true_or, Bool.or_true, Bool.false_or, Bool.or_false, beq_self_eq_true, eq_self, h1, Nat.reduceBEq, Int.reduceBEq, String.reduceBEq, String.reduceEq, Nat.reduceEqDiff, reduceCtorEq, Int.reduceNeg, Int.reduceLT, Int.reduceLE, Int.reduceEq, Int.reduceAdd, Int.reduceSub, Nat.reduceLT, Nat.reduceLeDiff, Nat.reduceAdd, Nat.reduceSub, Nat.reduceEqDiff]
theorem line_ok (hm : 3 ≤ m) (g : GL G Fs kw le di ml gm fw fwl) (hF : Fs[fln]? = some (Fline fwl)) {d : D} (hd : tm d = true) (hs : shS 900000 d = true) (h : Hs) : callN G Fs m fln [d] h = .ok (.bl (isLine d)) h := by
  obtain ⟨n, rfl⟩ : ∃ n, m = n + 1 := ⟨m - 1, by omega⟩
  rw [callN_eq hF rfl]
  cases d with
  | str s =>
    have hl : s.length < 900000 := of_decide_eq_true hs
    obtain ⟨h1, h2, h3⟩ := split_len (c := 32) (s := s)
    simp (config := {implicitDefEqProofs := false}) only [evSs_nil, nx_nx, nx_rt, evS, evE, evEs, evO, evC, evI, R.bind_ok, R.bind_exc, R.q_ok, R.q_exc, R.of_some, R.nox_ok, Q.bind_nx, Q.bind_rt, Q.bind_bk, Q.bind_ct, Q.bind_exc, fin_rt, fin_nx, fin_exc, List.getElem?_cons_zero, List.getElem?_cons_succ, List.set_cons_zero, List.set_cons_succ, asgT, asgTs, lstOf, wipeS, srcOf, if_true, if_false, Bool.false_eq_true, Bool.true_eq_false, Bool.not_true, Bool.not_false, decide_true, decide_false, t_bl, t_int, t_non, t_tup, t_lst, c_lt, c_le, c_gt, c_ge, c_eqi, c_nei, c_eqs, c_nes, c_isN, c_isnN, c_isB, c_isnB, b_add, b_sub, ix_tup, ix_frz, ix_scr, at0, at1, isTys_nil, isTys_cons, ty_int_non, ty_int_bl, ty_int_int, ty_int_str, ty_int_tup, ty_int_lst, ty_int_dic, ty_bool_non, ty_bool_bl, ty_bool_int, ty_bool_str, ty_bool_tup, ty_bool_lst, ty_bool_dic, ty_str_non, ty_str_bl, ty_str_int, ty_str_str, ty_str_tup, ty_str_lst, ty_str_dic, ty_tuple_non, ty_tuple_bl, ty_tuple_int, ty_tuple_str, ty_tuple_tup, ty_tuple_lst, ty_tuple_dic, ty_list_non, ty_list_bl, ty_list_int, ty_list_str, ty_list_tup, ty_list_lst, ty_list_dic, ty_dict_non, ty_dict_bl, ty_dict_int, ty_dict_str, ty_dict_tup, ty_dict_lst, ty_dict_dic, ty_err_exn, ty_own_exn, bi_len_scr, bi_len_tup, bi_len_lst, bi_tuple_lst, bi_tuple_tup, bi_list_lst, bi_list_tup, bi_max, bi_min, mt_append, mt_part, mt_split, mt_splitN, mt_join, sl_tup, sl_lst, seqV, end_raw, Option.bind_some, Option.map_some, chk_nil, List.append_nil, okR_ok, okQ_ok, c_ins, c_nins, Int.cast_ofNat_Int, List.length_cons, List.length_nil, List.cons.injEq, and_self, and_true, true_and, and_false, false_and, Nat.zero_add, not_true_eq_false, not_false_eq_true, Bool.true_and, Bool.and_true, Bool.false_and, Bool.and_false, Bool.true_or, Bool.or_true, Bool.false_or, Bool.or_false, beq_self_eq_true, eq_self, evSs, Fline, List.map_cons, List.map_nil, List.replicate, List.cons_append, List.nil_append, m_split (s := s) (c := 32) (show 32 < 256 ∧ s.length + 2 ≤ lim by unfold lim; omega), wl_ok (show 2 ≤ n by omega) g (show (splitL 32 s).length < lim by unfold lim; omega) (fun w hw => show w.length < lim by have := h3 w hw; unfold lim; omega), end_pure0 (show pl 40 (.bl (isWL (splitL 32 s))) = true from rfl), isLine, isLineS, Nat.reduceBEq, Int.reduceBEq, String.reduceBEq, String.reduceEq, Nat.reduceEqDiff, reduceCtorEq, Int.reduceNeg, Int.reduceLT, Int.reduceLE, Int.reduceEq, Int.reduceAdd, Int.reduceSub, Nat.reduceLT, Nat.reduceLeDiff, Nat.reduceAdd, Nat.reduceSub, Nat.reduceEqDiff]
  | _ => first | (simp [tm] at hd; done) | (simp (config := {implicitDefEqProofs := false}) only [evSs_nil, nx_nx, nx_rt, evS, evE, evEs, evO, evC, evI, R.bind_ok, R.bind_exc, R.q_ok, R.q_exc, R.of_some, R.nox_ok, Q.bind_nx, Q.bind_rt, Q.bind_bk, Q.bind_ct, Q.bind_exc, fin_rt, fin_nx, fin_exc, List.getElem?_cons_zero, List.getElem?_cons_succ, List.set_cons_zero, List.set_cons_succ, asgT, asgTs, lstOf, wipeS, srcOf, if_true, if_false, Bool.false_eq_true, Bool.true_eq_false, Bool.not_true, Bool.not_false, decide_true, decide_false, t_bl, t_int, t_non, t_tup, t_lst, c_lt, c_le, c_gt, c_ge, c_eqi, c_nei, c_eqs, c_nes, c_isN, c_isnN, c_isB, c_isnB, b_add, b_sub, ix_tup, ix_frz, ix_scr, at0, at1, isTys_nil, isTys_cons, ty_int_non, ty_int_bl, ty_int_int, ty_int_str, ty_int_tup, ty_int_lst, ty_int_dic, ty_bool_non, ty_bool_bl, ty_bool_int, ty_bool_str, ty_bool_tup, ty_bool_lst, ty_bool_dic, ty_str_non, ty_str_bl, ty_str_int, ty_str_str, ty_str_tup, ty_str_lst, ty_str_dic, ty_tuple_non, ty_tuple_bl, ty_tuple_int, ty_tuple_str, ty_tuple_tup, ty_tuple_lst, ty_tuple_dic, ty_list_non, ty_list_bl, ty_list_int, ty_list_str, ty_list_tup, ty_list_lst, ty_list_dic, ty_dict_non, ty_dict_bl, ty_dict_int, ty_dict_str, ty_dict_tup, ty_dict_lst, ty_dict_dic, ty_err_exn, ty_own_exn, bi_len_scr, bi_len_tup, bi_len_lst, bi_tuple_lst, bi_tuple_tup, bi_list_lst, bi_list_tup, bi_max, bi_min, mt_append, mt_part, mt_split, mt_splitN, mt_join, sl_tup, sl_lst, seqV, end_raw, Option.bind_some, Option.map_some, chk_nil, List.append_nil, okR_ok, okQ_ok, c_ins, c_nins, Int.cast_ofNat_Int, List.length_cons, List.length_nil, List.cons.injEq, and_self, and_true, true_and, and_false, false_and, Nat.zero_add, not_true_eq_false, not_false_eq_true, Bool.true_and, Bool.and_true, Bool.false_and, Bool.and_false, Bool.true_or, Bool.or_true, Bool.false_or, Bool.or_false, beq_self_eq_true, eq_self, evSs, Fline, isLine, List.map_cons, List.map_nil, List.replicate, List.cons_append, List.nil_append, Nat.reduceBEq, Int.reduceBEq, String.reduceBEq, String.reduceEq, Nat.reduceEqDiff, reduceCtorEq, Int.reduceNeg, Int.reduceLT, Int.reduceLE, Int.reduceEq, Int.reduceAdd, Int.reduceSub, Nat.reduceLT, Nat.reduceLeDiff, Nat.reduceAdd, Nat.reduceSub, Nat.reduceEqDiff])
theorem split_yes {fsp c : Nat} (hm : 4 ≤ m) (g : GL G Fs kw le di ml gm fw fwl) (hF : Fs[fln]? = some (Fline fwl)) (hS : Fs[fsp]? = some (Fsplit fln c .split)) {s : List Nat} (hs : s.length < 900000) (hn : isLineS s = true) (h : Hs) :
    callN G Fs m fsp [.str s] h = .ok (.lst ((splitL 32 s).map .str)) h := by
  obtain ⟨n, rfl⟩ : ∃ n, m = n + 1 := ⟨m - 1, by omega⟩
  rw [callN_eq hS rfl]
  simp (config := {implicitDefEqProofs := false}) only [evSs_nil, nx_nx, nx_rt, evS, evE, evEs, evO, evC, evI, R.bind_ok, R.bind_exc, R.q_ok, R.q_exc, R.of_some, R.nox_ok, Q.bind_nx, Q.bind_rt, Q.bind_bk, Q.bind_ct, Q.bind_exc, fin_rt, fin_nx, fin_exc, List.getElem?_cons_zero, List.getElem?_cons_succ, List.set_cons_zero, List.set_cons_succ, asgT, asgTs, lstOf, wipeS, srcOf, if_true, if_false, Bool.false_eq_true, Bool.true_eq_false, Bool.not_true, Bool.not_false, decide_true, decide_false, t_bl, t_int, t_non, t_tup, t_lst, c_lt, c_le, c_gt, c_ge, c_eqi, c_nei, c_eqs, c_nes, c_isN, c_isnN, c_isB, c_isnB, b_add, b_sub, ix_tup, ix_frz, ix_scr, at0, at1, isTys_nil, isTys_cons, ty_int_non, ty_int_bl, ty_int_int, ty_int_str, ty_int_tup, ty_int_lst, ty_int_dic, ty_bool_non, ty_bool_bl, ty_bool_int, ty_bool_str, ty_bool_tup, ty_bool_lst, ty_bool_dic, ty_str_non, ty_str_bl, ty_str_int, ty_str_str, ty_str_tup, ty_str_lst, ty_str_dic, ty_tuple_non, ty_tuple_bl, ty_tuple_int, ty_tuple_str, ty_tuple_tup, ty_tuple_lst, ty_tuple_dic, ty_list_non, ty_list_bl, ty_list_int, ty_list_str, ty_list_tup, ty_list_lst, ty_list_dic, ty_dict_non, ty_dict_bl, ty_dict_int, ty_dict_str, ty_dict_tup, ty_dict_lst, ty_dict_dic, ty_err_exn, ty_own_exn, bi_len_scr, bi_len_tup, bi_len_lst, bi_tuple_lst, bi_tuple_tup, bi_list_lst, bi_list_tup, bi_max, bi_min, mt_append, mt_part, mt_split, mt_splitN, mt_join, sl_tup, sl_lst, seqV, end_raw, Option.bind_some, Option.map_some, chk_nil, List.append_nil, okR_ok, okQ_ok, c_ins, c_nins, Int.cast_ofNat_Int, List.length_cons, List.length_nil, List.cons.injEq, and_self, and_true, true_and, and_false, false_and, Nat.zero_add, not_true_eq_false, not_false_eq_true, Bool.true_and, Bool.and_true, Bool.false_and, Bool.and_false, Bool.true_or, Bool.or_true, Bool.false_or, Bool.or_false, beq_self_eq_true, eq_self, evSs, Fsplit, List.map_cons, List.map_nil, List.replicate, List.cons_append, List.nil_append, line_ok (show 3 ≤ n by omega) g hF (d := .str s) rfl (decide_eq_true hs), show isLine (.str s) = true from hn, end_pure0 (show pl 40 (.bl true) = true from rfl), m_split (s := s) (c := 32) (show 32 < 256 ∧ s.length + 2 ≤ lim by unfold lim; omega), Nat.reduceBEq, Int.reduceBEq, String.reduceBEq, String.reduceEq, Nat.reduceEqDiff, reduceCtorEq, Int.reduceNeg, Int.reduceLT, Int.reduceLE, Int.reduceEq, Int.reduceAdd, Int.reduceSub, Nat.reduceLT, Nat.reduceLeDiff, Nat.reduceAdd, Nat.reduceSub, Nat.reduceEqDiff]
end
end
end L2.MP
namespace L2.MP
open PySem
/-- a for's step, kept shut -/
def forF (G : Gl) (C : Nat → List D → Hs → R D) (t : T) (body : List S) : D → Sl → Hs → Q := fun x sl h => (R.of (asgT h t x sl) h).q sl fun sl h => evSs G C body sl h
theorem evS_for {G : Gl} {C : Nat → List D → Hs → R D} {t : T} {it : I} {body : List S} {sl : Sl} {h : Hs} : evS G C (.for_ t it body) sl h = (evI G C it sl h).q sl fun xs h => forL xs.2 (forF G C t body) xs.1 sl h := by
  simp only [evS]
  rfl
/-- a bound of repr's length -/
def rB : Nat → D → Nat
  | 0, _ => 0
  | n + 1, .tup xs => (xs.map (rB n)).sum + 2 * xs.length + 3
  | n + 1, .lst xs => (xs.map (rB n)).sum + 2 * xs.length + 3
  | _ + 1, .str s => 10 * s.length + 2
  | _ + 1, _ => 13
/-- repr takes it -/
def rG : Nat → D → Bool
  | 0, _ => false
  | n + 1, .tup xs => xs.all (rG n)
  | n + 1, .lst xs => xs.all (rG n)
  | _ + 1, .non => true
  | _ + 1, .bl _ => true
  | _ + 1, .int i => decide (i.natAbs < 10 ^ 12)
  | _ + 1, .str s => okB s
  | _ + 1, .dic [] [] => true
  | _ + 1, _ => false
def okT (x : Str) : Prop := okS x.cps.toList
theorem okT_app {x y : Str} (h : okT x) (k : okT y) : okT (x ++ y) := by
  intro c hc
  have e : (x ++ y).cps.toList = x.cps.toList ++ y.cps.toList := by
    show (Str.append x y).cps.toList = _
    unfold Str.append
    simp
  rw [e] at hc
  rcases List.mem_append.mp hc with hc | hc
  · exact h c hc
  · exact k c hc
theorem okT_lit (s : String) : okT (Str.ofString s) := by
  intro c hc
  rw [Str.ofString_eq_toList] at hc
  simp only [List.mem_map] at hc
  obtain ⟨ch, _, rfl⟩ := hc
  have := ch.valid
  simp only [Char.toNat]
  rcases this with h | h
  · have h2 : ch.val.toNat < 0xd800 := h
    omega
  · exact h.2
theorem char_ok (ch : Char) : ch.toNat < 1114112 := by
  have := ch.valid
  simp only [Char.toNat]
  rcases this with h | h
  · have h2 : ch.val.toNat < 0xd800 := h
    omega
  · exact h.2
theorem reprChar_ok {q c : Nat} (hq : q < 1114112) (hc : c < 1114112) : ∀ z ∈ Builtin.Str.reprChar q c, z < 1114112 := by
  have hx : ∀ w : Nat, ∀ z ∈ List.replicate (w - ((Nat.toDigits 16 c).map Char.toNat).length) 48 ++ (Nat.toDigits 16 c).map Char.toNat, z < 1114112 := fun w z hz => by
    rcases List.mem_append.mp hz with hz | hz
    · rw [(List.mem_replicate.mp hz).2]; decide
    · obtain ⟨ch, _, rfl⟩ := List.mem_map.mp hz
      exact char_ok ch
  intro z hz
  unfold Builtin.Str.reprChar at hz
  simp only at hz
  repeat' split at hz
  all_goals simp only [List.mem_cons, List.mem_append, List.not_mem_nil, or_false, List.cons_append, List.nil_append] at hz
  all_goals first
    | (rcases hz with rfl | rfl <;> first | assumption | decide)
    | (subst hz; assumption)
    | (rcases hz with rfl | rfl | hz
       · decide
       · decide
       · exact hx _ z (List.mem_append.mpr hz))
theorem reprText_ok {x : Str} (h : okT x) : okT (reprText x) := by
  have hq : reprQuote x < 1114112 := by
    unfold reprQuote
    split <;> decide
  intro z hz
  unfold reprText at hz
  simp only [Array.toList_push, List.mem_append, List.mem_singleton] at hz
  rcases hz with hz | rfl
  · rw [← Array.foldl_toList] at hz
    have go : ∀ (l : List Nat) (acc : Array Nat), (∀ c ∈ l, c < 1114112) → (∀ c ∈ acc.toList, c < 1114112) → ∀ c ∈ (l.foldl (fun out c => out ++ (Builtin.Str.reprChar (reprQuote x) c).toArray) acc).toList, c < 1114112 := fun l => by
      induction l with
      | nil => intro acc _ h; exact h
      | cons a l ih =>
        intro acc h1 h2
        refine ih _ (fun c hc => h1 c (List.mem_cons_of_mem _ hc)) fun c hc => ?_
        simp only [Array.toList_append, List.mem_append] at hc
        rcases hc with hc | hc
        · exact h2 c hc
        · exact reprChar_ok hq (h1 a (List.mem_cons_self ..)) c (by simpa using hc)
    exact go _ _ h (by intro c hc; simp at hc; rw [hc]; exact hq) z hz
  · exact hq
theorem textFrom_ok : ∀ (ts : List Str) (k : Nat) (acc : Str), okT acc → (∀ t ∈ ts, okT t) → okT (textFrom k acc ts)
  | [], k, acc, h, _ => h
  | t :: r, k, acc, h, ht => by
    show okT (textFrom (k + 1) _ r)
    refine textFrom_ok r _ _ (okT_app (okT_app h ?_) (ht t (List.mem_cons_self ..))) fun u hu => ht u (List.mem_cons_of_mem _ hu)
    exact okT_lit _
theorem listText_ok {ts : List Str} (h : ∀ t ∈ ts, okT t) : okT (listText ts) := okT_app (textFrom_ok ts _ _ (okT_lit _) h) (okT_lit _)
theorem join_okT {sep : Str} (hs : okT sep) : ∀ {ts : List Str}, (∀ t ∈ ts, okT t) → okT (Str.join sep ts)
  | [], _ => fun c hc => by simp [Str.join, Str.empty] at hc
  | [x], h => h x (by simp)
  | x :: y :: r, h => by
    show okT (x ++ sep ++ Str.join sep (y :: r))
    exact okT_app (okT_app (h x (by simp)) hs) (join_okT hs fun t ht => h t (List.mem_cons_of_mem _ ht))
theorem tupleText_ok {ts : List Str} (h : ∀ t ∈ ts, okT t) : okT (tupleText ts) := okT_app (okT_app (okT_lit _) (join_okT (okT_lit _) h)) (okT_lit _)
theorem okS_B {s : List Nat} (h : okS s) : okB s = true := List.all_eq_true.mpr fun c hc => decide_eq_true (h c hc)
/-- what repr is told of a value -/
structure RpOk (n : Nat) (d : D) (pd : PyData) : Prop where
  to : toPD d = some pd
  sh : pd.showable = true
  le : pd.shown.length ≤ rB n d
  ok : okT pd.shown
theorem rps {n : Nat} (f : ∀ d, rG n d = true → ∃ pd, RpOk n d pd) : ∀ {xs : List D}, xs.all (rG n) = true → ∃ pds, toPDs xs = some pds ∧ PyData.showableAll pds = true ∧ pds.length = xs.length ∧ ((PyData.shownAll pds).map (·.length)).sum ≤ (xs.map (rB n)).sum ∧ (PyData.shownAll pds).length = xs.length ∧ ∀ t ∈ PyData.shownAll pds, okT t
  | [], _ => ⟨[], rfl, rfl, rfl, by simp [PyData.shownAll], rfl, by simp [PyData.shownAll]⟩
  | x :: xs, h => by
    simp only [List.all_cons, Bool.and_eq_true] at h
    obtain ⟨pd, p⟩ := f x h.1
    obtain ⟨pds, q1, q2, q3, q4, q5, q6⟩ := rps f h.2
    refine ⟨pd :: pds, ?_, ?_, by simp [q3], ?_, by simp [PyData.shownAll, q5], ?_⟩
    · simp only [toPDs, p.to, q1, Option.bind_some]
    · simp only [PyData.showableAll, p.sh, q2, Bool.and_self]
    · simp only [PyData.shownAll, List.map_cons, List.sum_cons]
      have := p.le
      omega
    · intro t ht
      simp only [PyData.shownAll, List.mem_cons] at ht
      rcases ht with rfl | ht
      · exact p.ok
      · exact q6 t ht
theorem rp_of : ∀ {n : Nat} {d : D}, rG n d = true → ∃ pd, RpOk n d pd
  | 0, _, h => by cases h
  | n + 1, d, h => by
    cases d with
    | non => exact ⟨.none, rfl, rfl, by simp only [PyData.shown, rB]; decide, okT_lit _⟩
    | bl b =>
      cases b
      · exact ⟨.bool false, rfl, rfl, by simp only [PyData.shown, rB]; decide, okT_lit "False"⟩
      · exact ⟨.bool true, rfl, rfl, by simp only [PyData.shown, rB]; decide, okT_lit "True"⟩
    | int i =>
      have hi : i.natAbs < 10 ^ 12 := of_decide_eq_true h
      refine ⟨.int i, rfl, ?_, PyData.shown_int_le hi, okT_lit _⟩
      simp only [PyData.showable]
      refine decide_eq_true ?_
      have h2 : i.natAbs < 2 ^ 1920 := Nat.lt_of_lt_of_le hi (by decide)
      by_cases h0 : i.natAbs = 0
      · rw [h0]; decide
      · exact (Nat.log2_lt h0).mpr h2
    | str s =>
      have hs : okT ⟨s.toArray⟩ := by
        intro c hc
        exact okB_ok h c (by simpa using hc)
      refine ⟨.str ⟨s.toArray⟩, rfl, rfl, ?_, by simp only [PyData.shown]; exact reprText_ok hs⟩
      simp only [PyData.shown, rB]
      have := StrLaws.reprText_len ⟨s.toArray⟩ (fun c hc => by have := hs c hc; omega)
      have e : (⟨s.toArray⟩ : Str).length = s.length := by show s.toArray.size = _; simp
      rw [e] at this
      exact this
    | tup xs =>
      obtain ⟨pds, q1, q2, q3, q4, q5, q6⟩ := rps (fun d => rp_of (n := n) (d := d)) (show xs.all (rG n) = true from h)
      refine ⟨.tuple pds, by simp only [toPD, q1, Option.map_some], by simp only [PyData.showable, q2], ?_, by simp only [PyData.shown]; exact tupleText_ok q6⟩
      simp only [PyData.shown, rB]
      have := tupleText_len_le (PyData.shownAll pds)
      omega
    | lst xs =>
      obtain ⟨pds, q1, q2, q3, q4, q5, q6⟩ := rps (fun d => rp_of (n := n) (d := d)) (show xs.all (rG n) = true from h)
      refine ⟨.list pds, by simp only [toPD, q1, Option.map_some], by simp only [PyData.showable, q2], ?_, by simp only [PyData.shown]; exact listText_ok q6⟩
      simp only [PyData.shown, rB]
      have := listText_len_le (PyData.shownAll pds)
      omega
    | dic ks vs =>
      cases ks with
      | cons => cases h
      | nil =>
        cases vs with
        | cons => cases h
        | nil =>
          refine ⟨.dict [], rfl, rfl, ?_, okT_app (okT_app (okT_lit _) (join_okT (okT_lit _) (by simp [PyData.shownKv]))) (okT_lit _)⟩
          have := dictText_len_le (PyData.shownKv [])
          simp only [PyData.shownKv, List.map_nil, List.sum_nil, List.length_nil] at this
          simp only [PyData.shown, rB, PyData.shownKv]
          omega
    | ref _ => cases h
    | exn _ _ => cases h
    | scr _ => cases h
    | kup _ => cases h
/-- what repr says of a value read to the ground -/
def rpS (d : D) : List Nat := match toPD d with
  | some pd => pd.shown.cps.toList
  | none => []
theorem repr_ok {h : Hs} {x x' : D} {n : Nat} {nd : Bool} (hd : deep true h 40 x = some x') (hg : rG n x' = true) (hb : rB n x' ≤ lim) : biD .repr nd [x] h = .ok (.str (rpS x')) h := by
  obtain ⟨pd, p⟩ := rp_of hg
  show (R.of ((deep true h 40 x).bind toPD) h).bind _ = _
  have hk : pd.showable = true ∧ pd.shown.length ≤ lim ∧ okB pd.shown.cps.toList = true := ⟨p.sh, Nat.le_trans p.le hb, okS_B p.ok⟩
  simp only [hd, Option.bind_some, p.to, R.of_some, R.bind_ok, if_pos hk, rpS]
end L2.MP
namespace L2.MP
open PySem
def isNameS (s : List Nat) : Bool := isWordS s && ((match s with
  | c :: _ => decide (c ∈ lets)
  | [] => false) && !kwL.any fun t => t == s)
def isName : D → Bool
  | .str s => isNameS s
  | _ => false
def numS (s : List Nat) : D := if isWordS s = true ∧ s.length ≤ 4 ∧ s.all (fun c => decide (c ∈ digs)) = true then (match s with
  | 48 :: _ :: _ => .non
  | _ => .int (natOf s 0)) else .non
def numD : D → D
  | .str s => numS s
  | _ => .non
def isLabel (d : D) : Bool := isName d || (match numD d with
  | .non => false
  | _ => true)
end L2.MP
namespace L2.MP
open PySem
structure IX where
  f_is_integer : Nat := 0
  f_in_range : Nat := 0
  f_is_word : Nat := 0
  f_is_name : Nat := 0
  f_parse_number : Nat := 0
  f_is_label : Nat := 0
  f_is_day : Nat := 0
  f_is_word_list : Nat := 0
  f_is_line : Nat := 0
  f_validate_section : Nat := 0
  f_validate_act : Nat := 0
  f_format_act : Nat := 0
  f_parse_header : Nat := 0
  f_parse_act : Nat := 0
  f_is_literal : Nat := 0
  f_is_reading : Nat := 0
  f_holds : Nat := 0
  f_is_satisfied : Nat := 0
  f_is_same : Nat := 0
  f_is_row : Nat := 0
  f_fewest_true : Nat := 0
  f_smallest_case : Nat := 0
  f_split_line : Nat := 0
  f_validate_lines : Nat := 0
  f_validate_both : Nat := 0
  f_edit_table : Nat := 0
  f_is_edit_table : Nat := 0
  f_parse_literal : Nat := 0
  f_group_literals : Nat := 0
  f_build_readings : Nat := 0
  f_parse_condition : Nat := 0
  f_parse_conclusion : Nat := 0
  f_is_reference : Nat := 0
  f_parse_definition : Nat := 0
  f_parse_rule : Nat := 0
  f_literal_words : Nat := 0
  f_condition_words : Nat := 0
  f_is_conclusion : Nat := 0
  f_is_priority : Nat := 0
  f_is_rule : Nat := 0
  f_rule_words : Nat := 0
  f_distinguishing_case : Nat := 0
  f_parse_act_action : Nat := 0
  f_parse_substitution : Nat := 0
  f_parse_section_insertion : Nat := 0
  f_parse_line_action : Nat := 0
  f_parse_line_insertion : Nat := 0
  f_parse_section_action : Nat := 0
  f_parse_action : Nat := 0
  f_parse_instruction : Nat := 0
  f_format_action : Nat := 0
  f_matches_kind : Nat := 0
  f_is_action : Nat := 0
  f_format_instruction : Nat := 0
  c_InvalidAct : Nat := 0
  c_ParseError : Nat := 0
  c_InvalidReference : Nat := 0
  c_InvalidReading : Nat := 0
  c_InvalidRule : Nat := 0
  c_InvalidNames : Nat := 0
  c_InvalidRows : Nat := 0
  c_UnknownKey : Nat := 0
  c_InvalidLine : Nat := 0
  c_InvalidLines : Nat := 0
  c_InvalidInstruction : Nat := 0
  g_KEYWORDS : Nat := 0
  g_LETTERS : Nat := 0
  g_DIGITS : Nat := 0
  g_MAX_LENGTH : Nat := 0
  g_MAX_DIGITS : Nat := 0
  g_MAX_DAY : Nat := 0
  g_MAX_WORDS : Nat := 0
  g_MAX_SECTIONS : Nat := 0
  g_MAX_LINES : Nat := 0
  g_MAX_LITERALS : Nat := 0
  g_MAX_WANTED : Nat := 0
  g_MODES : Nat := 0
  d_CONCLUSIONS : Nat := 0
  d_SHAPES : Nat := 0
end L2.MP
namespace L2.MP
open PySem
section
variable {x : IX} {G : Gl} {Fs : List Fn}
/-- a value that repr takes, not too long -/
def Gd (n : Nat) (d : D) : Prop := rG n d = true ∧ rB n d ≤ 800000
theorem Gd.sh {n : Nat} {d : D} (h : Gd n d) : shS 900000 d = true := by
  obtain ⟨h, h2⟩ := h
  cases n with
  | zero => cases h
  | succ n =>
    cases d with
    | str s =>
      simp only [rB] at h2
      exact decide_eq_true (by omega)
    | _ => rfl
theorem sum_mem {l : List Nat} {x : Nat} (h : x ∈ l) : x ≤ l.sum := by
  induction l with
  | nil => simp at h
  | cons a l ih =>
    rcases List.mem_cons.mp h with rfl | h
    · simp
    · have := ih h
      simp; omega
theorem Gd.tup {n : Nat} {xs : List D} (h : Gd (n + 1) (.tup xs)) : (∀ x ∈ xs, Gd n x) ∧ xs.length ≤ 400000 := by
  obtain ⟨h, h2⟩ := h
  simp only [rB] at h2
  refine ⟨fun x hx => ⟨List.all_eq_true.mp h x hx, ?_⟩, by omega⟩
  have := sum_mem (List.mem_map.mpr ⟨x, hx, rfl⟩ : rB n x ∈ xs.map (rB n))
  omega
theorem Gd.lst {n : Nat} {xs : List D} (h : Gd (n + 1) (.lst xs)) : (∀ x ∈ xs, Gd n x) ∧ xs.length ≤ 400000 := by
  obtain ⟨h, h2⟩ := h
  simp only [rB] at h2
  refine ⟨fun x hx => ⟨List.all_eq_true.mp h x hx, ?_⟩, by omega⟩
  have := sum_mem (List.mem_map.mpr ⟨x, hx, rfl⟩ : rB n x ∈ xs.map (rB n))
  omega
end
end L2.MP
namespace L2.MP
open PySem
theorem m_extend {h : Hs} {k : Nat} {xs ys : List D} (e : h[k]? = some (.lst xs)) (q : xs.length + ys.length < lim) : mtD .extend (.ref k) [.lst ys] h = .ok .non (h.set k (.lst (xs ++ ys))) := by
  show (match h[k]? with
    | some (Nd.lst xs) => (R.of (lstV h (.lst ys)) h).bind fun ys h => if xs.length + ys.length < lim then R.ok D.non (h.set k (.lst (xs ++ ys))) else R.bad
    | _ => R.bad) = _
  rw [e]
  exact if_pos q
end L2.MP
namespace L2.MP
open PySem
end L2.MP
namespace L2.MP
open PySem
end L2.MP
namespace L2.MP
open PySem
theorem deep_rG {h : Hs} : ∀ {n m : Nat} {d : D}, rG n d = true → n ≤ m → deep true h m d = some d
  | 0, _, _, q, _ => by cases q
  | n + 1, 0, _, _, hm => by omega
  | n + 1, m + 1, d, q, hm => by
    cases d with
    | tup xs =>
      have hx : ∀ x ∈ xs, deep true h m x = some x := fun x hx => deep_rG (List.all_eq_true.mp q x hx) (by omega)
      simp only [deep, mapO_id hx, Option.map_some]
    | lst xs =>
      have hx : ∀ x ∈ xs, deep true h m x = some x := fun x hx => deep_rG (List.all_eq_true.mp q x hx) (by omega)
      simp only [deep, mapO_id hx, Option.map_some]
    | dic ks vs =>
      cases ks with
      | cons => cases q
      | nil =>
        cases vs with
        | cons => cases q
        | nil => rfl
    | _ => first | rfl | (cases q; done)
def short (n : Nat) (d : D) : Prop := ∃ s, d = .str s ∧ okB s = true ∧ s.length ≤ n
theorem PoolAt.setO {i j : Nat} {h0 h : Hs} {nd : Nd} (p : PoolAt i h0 h) (n : j ≠ i) : PoolAt i (h0.set j nd) (h.set j nd) := by
  obtain ⟨hi, a, b, h1, h2, rfl⟩ := p
  exact ⟨by rw [List.length_set]; exact hi, a, b, h1, h2, by rw [List.set_comm _ _ (Ne.symm n)]⟩
theorem rG_up : ∀ {n : Nat} {d : D}, rG n d = true → rG (n + 1) d = true ∧ rB (n + 1) d = rB n d
  | 0, _, q => by cases q
  | n + 1, d, q => by
    cases d with
    | tup xs =>
      have hx : ∀ x ∈ xs, rG (n + 1) x = true ∧ rB (n + 1) x = rB n x := fun x hx => rG_up (List.all_eq_true.mp q x hx)
      refine ⟨List.all_eq_true.mpr fun x h => (hx x h).1, ?_⟩
      have e : xs.map (rB (n + 1)) = xs.map (rB n) := List.map_congr_left fun x h => (hx x h).2
      simp only [rB]
      show (xs.map (rB (n + 1))).sum + _ + 3 = _
      rw [e]
    | lst xs =>
      have hx : ∀ x ∈ xs, rG (n + 1) x = true ∧ rB (n + 1) x = rB n x := fun x hx => rG_up (List.all_eq_true.mp q x hx)
      refine ⟨List.all_eq_true.mpr fun x h => (hx x h).1, ?_⟩
      have e : xs.map (rB (n + 1)) = xs.map (rB n) := List.map_congr_left fun x h => (hx x h).2
      simp only [rB]
      show (xs.map (rB (n + 1))).sum + _ + 3 = _
      rw [e]
    | dic ks vs =>
      cases ks with
      | cons => cases q
      | nil =>
        cases vs with
        | cons => cases q
        | nil => exact ⟨rfl, rfl⟩
    | _ => first | exact ⟨q, rfl⟩ | (cases q; done)
theorem rG_le {n m : Nat} {d : D} (q : rG n d = true) (h : n ≤ m) : rG m d = true ∧ rB m d = rB n d := by
  induction h with
  | refl => exact ⟨q, rfl⟩
  | step _ ih =>
    obtain ⟨a, b⟩ := rG_up ih.1
    exact ⟨a, b.trans ih.2⟩
/-- good at a depth, with a bound -/
def GB (n k : Nat) (d : D) : Prop := rG n d = true ∧ rB n d ≤ k
theorem GB.le {n m k l : Nat} {d : D} (h : GB n k d) (hm : n ≤ m) (hk : k ≤ l) : GB m l d := by
  obtain ⟨a, b⟩ := rG_le h.1 hm
  exact ⟨a, by rw [b]; exact Nat.le_trans h.2 hk⟩
theorem sum_leD {xs : List D} {f : D → Nat} {B : Nat} (h : ∀ x ∈ xs, f x ≤ B) : (xs.map f).sum ≤ xs.length * B := by
  induction xs with
  | nil => simp
  | cons x xs ih =>
    have h1 := h x (List.mem_cons_self ..)
    have h2 := ih fun y hy => h y (List.mem_cons_of_mem _ hy)
    simp only [List.map_cons, List.sum_cons, List.length_cons, Nat.add_mul, Nat.one_mul]
    omega
theorem GB.lst {n k : Nat} {xs : List D} (h : ∀ x ∈ xs, GB n k x) : GB (n + 1) (xs.length * k + 2 * xs.length + 3) (.lst xs) := by
  refine ⟨List.all_eq_true.mpr fun x hx => (h x hx).1, ?_⟩
  have := sum_leD (f := rB n) fun x hx => (h x hx).2
  simp only [rB]
  omega
theorem GB.tup {n k : Nat} {xs : List D} (h : ∀ x ∈ xs, GB n k x) : GB (n + 1) (xs.length * k + 2 * xs.length + 3) (.tup xs) := by
  refine ⟨List.all_eq_true.mpr fun x hx => (h x hx).1, ?_⟩
  have := sum_leD (f := rB n) fun x hx => (h x hx).2
  simp only [rB]
  omega
theorem short_gb {n : Nat} {d : D} (h : short n d) : GB 1 (10 * n + 2) d := by
  obtain ⟨s, rfl, h1, h2⟩ := h
  exact ⟨h1, by simp only [rB]; omega⟩
theorem int_gb {i : Int} (h : i.natAbs < 100000) : GB 1 13 (.int i) := ⟨decide_eq_true (by omega), by simp only [rB]; omega⟩
theorem GB.gd {n m k : Nat} {d : D} (h : GB n k d) (hn : n ≤ m) (hk : k ≤ 800000) : Gd m d := h.le hn hk
theorem get_last {h : Hs} {x : Nd} : (h ++ [x])[h.length]? = some x := by simp
theorem forL_pre {s : Src} {f : D → Sl → Hs → Q} (I : List D → Sl → Hs → Prop) (hc : ∀ n sl h, I n sl h → chk s h = true) : ∀ {xs done : List D} {sl : Sl} {h : Hs},
    (∀ pre x post sl h, done ++ xs = pre ++ x :: post → I pre sl h → okQ (f x sl h) fun F sl' h' => F = .nx ∧ I (pre ++ [x]) sl' h') → I done sl h → okQ (forL s f xs sl h) fun F sl' h' => F = .nx ∧ I (done ++ xs) sl' h'
  | [], done, sl, h, _, i => by
    simp only [forL]
    rw [if_pos (hc _ sl h i), List.append_nil]
    exact ⟨rfl, i⟩
  | x :: xs, done, sl, h, k, i => by
    simp only [forL]
    rw [if_pos (hc _ sl h i)]
    have q := k done x xs sl h rfl i
    cases e : f x sl h with
    | ok F sl1 h1 =>
      rw [e] at q
      obtain ⟨rfl, i1⟩ := q
      have e2 : done ++ [x] ++ xs = done ++ x :: xs := by rw [List.append_assoc]; rfl
      have := forL_pre I hc (xs := xs) (done := done ++ [x]) (fun pre y post sl h he => k pre y post sl h (by rw [← e2]; exact he)) i1
      rw [e2] at this
      exact this
    | exc c fs sl1 h1 => rw [e] at q; exact False.elim q
    | bad => rw [e] at q; exact False.elim q
end L2.MP
namespace L2.MP
open PySem
def nd4 (cs : List Int) (a b c : Int) : Nd := .lst [.lst (cs.map .int), .int a, .int b, .int c]
def PoolB (cs : List Int) (i : Nat) (h0 h : Hs) : Prop := i < h0.length ∧ cs.length ≤ 63 ∧ ∃ a b c : Int, 0 ≤ a ∧ h = h0.set i (nd4 cs a b c)
section
variable {cs : List Int} {i : Nat} {h0 h : Hs}
theorem PoolB.app {t : Hs} (p : PoolB cs i h0 h) : PoolB cs i (h0 ++ t) (h ++ t) := by
  obtain ⟨hi, hc, a, b, c, h1, rfl⟩ := p
  exact ⟨by rw [List.length_append]; omega, hc, a, b, c, h1, by rw [List.set_append_left _ _ hi]⟩
theorem PoolB.len (p : PoolB cs i h0 h) : h.length = h0.length := by
  obtain ⟨hi, hc, a, b, c, h1, rfl⟩ := p
  simp
theorem PoolB.other {j : Nat} (p : PoolB cs i h0 h) (n : j ≠ i) : h[j]? = h0[j]? := by
  obtain ⟨hi, hc, a, b, c, h1, rfl⟩ := p
  rw [List.getElem?_set_ne (Ne.symm n)]
theorem PoolB.setO {j : Nat} {nd : Nd} (p : PoolB cs i h0 h) (n : j ≠ i) : PoolB cs i (h0.set j nd) (h.set j nd) := by
  obtain ⟨hi, hc, a, b, c, h1, rfl⟩ := p
  exact ⟨by rw [List.length_set]; exact hi, hc, a, b, c, h1, by rw [List.set_comm _ _ (Ne.symm n)]⟩
variable {G : Gl} {Fs : List Fn} {f n : Nat}
end
end L2.MP
namespace L2.MP
open PySem
section
variable {G : Gl} {Fs : List Fn} {fd fk fm f : Nat} {cs : List Int} {i : Nat} {h0 h : Hs}
/-- a name under way: a letter, then letters and digits -/
def Nm (n : Nat) (w : List Nat) : Prop := ∃ c t, w = c :: t ∧ c ∈ lets ∧ (∀ x ∈ t, x ∈ lets ++ digs) ∧ w.length ≤ n
theorem Nm.name {w : List Nat} (h : Nm 8 w) (hk : kwL.any (fun t => t == w) = false) : isNameS w = true := by
  obtain ⟨c, t, rfl, hc, ht, hl⟩ := h
  have h1 : (c :: t).all (fun c => decide (c ∈ lets ++ digs)) = true := by
    simp only [List.all_cons, List.all_eq_true, Bool.and_eq_true, decide_eq_true_eq]
    exact ⟨List.mem_append_left _ hc, ht⟩
  simp only [isNameS, isWordS, List.isEmpty_cons, Bool.not_false, h1, hl, decide_true, Bool.true_or, Bool.and_self, hc, hk]
theorem Nm.cut {w : List Nat} (h : Nm 8 w) : isNameS (w.take 7 ++ [48]) = true := by
  obtain ⟨c, t, rfl, hc, ht, hl⟩ := h
  have e : (c :: t).take 7 ++ [48] = c :: (t.take 6 ++ [48]) := rfl
  refine Nm.name ⟨c, t.take 6 ++ [48], e, hc, fun x hx => ?_, ?_⟩ ?_
  · rcases List.mem_append.mp hx with hx | hx
    · exact ht x (List.mem_of_mem_take hx)
    · rw [List.mem_singleton.mp hx]
      decide
  · simp only [List.length_append, List.length_take, List.length_cons, List.length_nil]
    omega
  · refine Bool.eq_false_iff.mpr fun z => ?_
    obtain ⟨q, hq, e2⟩ := List.any_eq_true.mp z
    have e3 : q = (c :: t).take 7 ++ [48] := eq_of_beq e2
    have : ∀ q ∈ kwL, 48 ∉ q := by decide
    exact this q hq (by rw [e3]; simp)
end
end L2.MP
namespace L2.MP
open PySem
def isS : List Nat := [105, 115]
def notS : List Nat := [110, 111, 116]
def aboveS : List Nat := [97, 98, 111, 118, 101]
def belowS : List Nat := [98, 101, 108, 111, 119]
def withinS : List Nat := [119, 105, 116, 104, 105, 110]
def isLit : D → Bool
  | .tup [a, b] => isName b && [D.str isS, .str notS].any fun z => eqT z a
  | .tup [a, b, c] => isName b && (([D.str aboveS, .str belowS, .str withinS].any fun z => eqT z a) && isDay c)
  | _ => false
/-- plain and printable -/
def Gp (n : Nat) (d : D) : Prop := Gd n d ∧ pl n d = true
theorem Gp.tup {n : Nat} {xs : List D} (h : Gp (n + 1) (.tup xs)) : (∀ x ∈ xs, Gp n x) ∧ xs.length ≤ 400000 := by
  obtain ⟨h1, h2⟩ := h.1.tup
  exact ⟨fun x hx => ⟨h1 x hx, List.all_eq_true.mp h.2 x hx⟩, h2⟩
end L2.MP
namespace L2.MP
open PySem
/-- a drawn literal -/
def Lt (l : D) : Prop := (∃ a w, l = .tup [.str a, .str w] ∧ (a = isS ∨ a = notS) ∧ isNameS w = true) ∨ ∃ a w d, l = .tup [.str a, .str w, .int d] ∧ (a = aboveS ∨ a = belowS ∨ a = withinS) ∧ isNameS w = true ∧ 0 ≤ d ∧ d ≤ 9999
theorem Lt.lit {l : D} (h : Lt l) : isLit l = true := by
  rcases h with ⟨a, w, rfl, ha, hw⟩ | ⟨a, w, d, rfl, ha, hw, d0, d1⟩
  · have e : isName (.str w) = true := hw
    simp only [isLit, e, Bool.true_and]
    rcases ha with rfl | rfl <;> rfl
  · have e : isName (.str w) = true := hw
    have e2 : isDay (.int d) = true := by simp only [isDay, inR, d0, d1, decide_true, Bool.and_self]
    simp only [isLit, e, e2, Bool.true_and, Bool.and_true]
    rcases ha with rfl | rfl | rfl <;> rfl
end L2.MP
namespace L2.MP
open PySem
theorem srcOf_ref {i : Nat} {xs : List D} : srcOf (.ref i) xs = [(i, xs)] := rfl
theorem srcOf_lst {ys xs : List D} : srcOf (.lst ys) xs = [] := rfl
theorem srcOf_tup {ys xs : List D} : srcOf (.tup ys) xs = [] := rfl
def lcQ (G : Gl) (C : Nat → List D → Hs → R D) (own : List Nat) (t : T) (c : Option E) (elt : E) (sl : Sl) : D → Hs → R (Option D) := fun x h => (R.of (asgT h t x (wipeS sl own)) h).bind fun sl2 h => (evC G C c sl2 h).bind fun ok h =>
      if ok then (evE G C elt sl2 h).bind fun y h => .ok (some y) h else .ok none h
theorem evE_lc {G : Gl} {C : Nat → List D → Hs → R D} {own : List Nat} {t : T} {it : I} {c : Option E} {elt : E} {nd : Bool} {sl : Sl} {h : Hs} : evE G C (.lc own t it c elt nd) sl h = (evI G C it sl h).bind fun xs h => if xs.1.length < lim then ((mapR xs.2 (lcQ G C own t c elt sl) xs.1 h).nox).bind fun ys h => lstOf nd ys h else .bad := rfl
def lcQ2 (G : Gl) (C : Nat → List D → Hs → R D) (own own1 : List Nat) (t : T) (t1 : T) (it1 : I) (elt : E) (sl : Sl) : D → Hs → R (List D) := fun x h => (R.of (asgT h t x (wipeS sl own)) h).bind fun sl2 h => (evI G C it1 sl2 h).bind fun ys h =>
      mapR ys.2 (fun y h => (R.of (asgT h t1 y (wipeS sl2 own1)) h).bind fun sl3 h => (evE G C elt sl3 h).bind fun z h => .ok (some z) h) ys.1 h
theorem evE_lc2 {G : Gl} {C : Nat → List D → Hs → R D} {own own1 : List Nat} {t : T} {it : I} {t1 : T} {it1 : I} {elt : E} {nd : Bool} {sl : Sl} {h : Hs} : evE G C (.lc2 own own1 t it t1 it1 elt nd) sl h = (evI G C it sl h).bind fun xs h => ((flatR xs.2 (lcQ2 G C own own1 t t1 it1 elt sl) xs.1 h).nox).bind fun ys h => if ys.length < lim then lstOf nd ys h else .bad := rfl
theorem All2.mono {α β : Type} {T U : α → β → Prop} (k : ∀ x y, T x y → U x y) : ∀ {xs : List α} {ys : List β}, All2 T xs ys → All2 U xs ys
  | [], [], _ => trivial
  | _ :: _, _ :: _, h => ⟨k _ _ h.1, All2.mono k h.2⟩
  | [], _ :: _, h => False.elim h
  | _ :: _, [], h => False.elim h
theorem All2.append {α β : Type} {T : α → β → Prop} : ∀ {xs : List α} {ys : List β} {us : List α} {vs : List β}, All2 T xs ys → All2 T us vs → All2 T (xs ++ us) (ys ++ vs)
  | [], [], _, _, _, k => k
  | _ :: _, _ :: _, _, _, h, k => ⟨h.1, All2.append h.2 k⟩
  | [], _ :: _, _, _, h, _ => False.elim h
  | _ :: _, [], _, _, h, _ => False.elim h
theorem All2.take {α β : Type} {T : α → β → Prop} : ∀ (n : Nat) {xs : List α} {ys : List β}, All2 T xs ys → All2 T (xs.take n) (ys.take n)
  | 0, _, _, _ => trivial
  | _ + 1, [], [], _ => trivial
  | n + 1, _ :: _, _ :: _, h => ⟨h.1, All2.take n h.2⟩
  | _ + 1, [], _ :: _, h => False.elim h
  | _ + 1, _ :: _, [], h => False.elim h
theorem All2.drop {α β : Type} {T : α → β → Prop} : ∀ (n : Nat) {xs : List α} {ys : List β}, All2 T xs ys → All2 T (xs.drop n) (ys.drop n)
  | 0, _, _, h => h
  | _ + 1, [], [], _ => trivial
  | n + 1, _ :: _, _ :: _, h => All2.drop n h.2
  | _ + 1, [], _ :: _, h => False.elim h
  | _ + 1, _ :: _, [], h => False.elim h
theorem srcV {H : Hs} {v : D} {its : List D} (e : lstV H v = some its) : seqV H v = some its ∧ chk (srcOf v its) H = true := by
  cases v with
  | lst xs => cases e; exact ⟨rfl, rfl⟩
  | ref i =>
    refine ⟨e, ?_⟩
    simp only [lstV] at e
    cases eh : H[i]? with
    | none => rw [eh] at e; cases e
    | some nd =>
      rw [eh] at e
      cases nd with
      | lst ys => cases e; simp only [srcOf, chk, List.all_cons, List.all_nil, eh, decide_true, Bool.and_true]
      | _ => cases e
  | _ => cases e
theorem biT_v {H : Hs} {v : D} {its : List D} (e : lstV H v = some its) {nd : Bool} : biD .tuple nd [v] H = .ok (.tup its) H := by
  show (R.of (seqV H v) H).bind _ = _
  rw [(srcV e).1]
  rfl
end L2.MP
namespace L2.MP
open PySem
def whC (G : Gl) (C : Nat → List D → Hs → R D) (c : E) : Sl → Hs → R Bool := fun sl h => (evE G C c sl h).bind fun x h => R.of (truD h x) h
def whB (G : Gl) (C : Nat → List D → Hs → R D) (body : List S) : Sl → Hs → Q := fun sl h => evSs G C body sl h
theorem evS_whl {G : Gl} {C : Nat → List D → Hs → R D} {c : E} {body : List S} {sl : Sl} {h : Hs} : evS G C (.whl c body) sl h = whlL (whC G C c) (whB G C body) wFuel sl h := rfl
theorem get_app_self {α : Type} {l : List α} {a : α} : (l ++ [a])[l.length]? = some a := by simp
theorem set_app_self {α : Type} {l : List α} {a b : α} : (l ++ [a]).set l.length b = l ++ [b] := by simp
theorem gA20 {α : Type} {l : List α} {a b : α} : (l ++ [a, b])[l.length]? = some a := by
  rw [List.getElem?_append_right (by omega)]
  simp
theorem sA20 {α : Type} {l : List α} {a b z : α} : (l ++ [a, b]).set (l.length) z = l ++ [z, b] := by
  rw [List.set_append_right _ _ (by omega)]
  simp
theorem gA21 {α : Type} {l : List α} {a b : α} : (l ++ [a, b])[l.length + 1]? = some b := by
  rw [List.getElem?_append_right (by omega)]
  simp
theorem sA21 {α : Type} {l : List α} {a b z : α} : (l ++ [a, b]).set (l.length + 1) z = l ++ [a, z] := by
  rw [List.set_append_right _ _ (by omega)]
  simp
theorem gA30 {α : Type} {l : List α} {a b c : α} : (l ++ [a, b, c])[l.length]? = some a := by
  rw [List.getElem?_append_right (by omega)]
  simp
theorem sA30 {α : Type} {l : List α} {a b c z : α} : (l ++ [a, b, c]).set (l.length) z = l ++ [z, b, c] := by
  rw [List.set_append_right _ _ (by omega)]
  simp
theorem gA31 {α : Type} {l : List α} {a b c : α} : (l ++ [a, b, c])[l.length + 1]? = some b := by
  rw [List.getElem?_append_right (by omega)]
  simp
theorem sA31 {α : Type} {l : List α} {a b c z : α} : (l ++ [a, b, c]).set (l.length + 1) z = l ++ [a, z, c] := by
  rw [List.set_append_right _ _ (by omega)]
  simp
theorem gA32 {α : Type} {l : List α} {a b c : α} : (l ++ [a, b, c])[l.length + 2]? = some c := by
  rw [List.getElem?_append_right (by omega)]
  simp
theorem sA32 {α : Type} {l : List α} {a b c z : α} : (l ++ [a, b, c]).set (l.length + 2) z = l ++ [a, b, z] := by
  rw [List.set_append_right _ _ (by omega)]
  simp
theorem gA40 {α : Type} {l : List α} {a b c d : α} : (l ++ [a, b, c, d])[l.length]? = some a := by
  rw [List.getElem?_append_right (by omega)]
  simp
theorem sA40 {α : Type} {l : List α} {a b c d z : α} : (l ++ [a, b, c, d]).set (l.length) z = l ++ [z, b, c, d] := by
  rw [List.set_append_right _ _ (by omega)]
  simp
theorem gA41 {α : Type} {l : List α} {a b c d : α} : (l ++ [a, b, c, d])[l.length + 1]? = some b := by
  rw [List.getElem?_append_right (by omega)]
  simp
theorem sA41 {α : Type} {l : List α} {a b c d z : α} : (l ++ [a, b, c, d]).set (l.length + 1) z = l ++ [a, z, c, d] := by
  rw [List.set_append_right _ _ (by omega)]
  simp
theorem gA42 {α : Type} {l : List α} {a b c d : α} : (l ++ [a, b, c, d])[l.length + 2]? = some c := by
  rw [List.getElem?_append_right (by omega)]
  simp
theorem sA42 {α : Type} {l : List α} {a b c d z : α} : (l ++ [a, b, c, d]).set (l.length + 2) z = l ++ [a, b, z, d] := by
  rw [List.set_append_right _ _ (by omega)]
  simp
theorem gA43 {α : Type} {l : List α} {a b c d : α} : (l ++ [a, b, c, d])[l.length + 3]? = some d := by
  rw [List.getElem?_append_right (by omega)]
  simp
theorem sA43 {α : Type} {l : List α} {a b c d z : α} : (l ++ [a, b, c, d]).set (l.length + 3) z = l ++ [a, b, c, z] := by
  rw [List.set_append_right _ _ (by omega)]
  simp
theorem d_lt {a b : Int} (h : a < b) : decide (a < b) = true := decide_eq_true h
theorem d_nlt {a b : Int} (h : ¬ a < b) : decide (a < b) = false := decide_eq_false h
theorem d_le {a b : Int} (h : a ≤ b) : decide (a ≤ b) = true := decide_eq_true h
theorem d_nle {a b : Int} (h : ¬ a ≤ b) : decide (a ≤ b) = false := decide_eq_false h
theorem d_eq {a b : Int} (h : a = b) : decide (a = b) = true := decide_eq_true h
theorem d_neq {a b : Int} (h : ¬ a = b) : decide (a = b) = false := decide_eq_false h
theorem rng_if {α : Type} {i j : Int} {a b : R α} (h : -1000000 ≤ i ∧ i ≤ 1000000 ∧ -1000000 ≤ j ∧ j ≤ 1000000) : (if -1000000 ≤ i ∧ i ≤ 1000000 ∧ -1000000 ≤ j ∧ j ≤ 1000000 then a else b) = a := if_pos h
theorem rng_if2 {α : Type} {j : Int} {a b : R α} (h : -1000000 ≤ j ∧ j ≤ 1000000) : (if -1000000 ≤ j ∧ j ≤ 1000000 then a else b) = a := if_pos h
theorem le_limT {n : Nat} (h : n ≤ 1000000) : (n ≤ lim) = True := eq_true h
theorem lt_limT {n : Nat} (h : n < 1000000) : (n < lim) = True := eq_true h
theorem lim_if {α : Type} {n : Nat} {a b : R α} (h : n < 1000000) : (if n < lim then a else b) = a := if_pos h
def isNon : D → Bool
  | .non => true
  | _ => false
theorem c_isN2 {h : Hs} {d : D} : cmpD h .Is d .non = some (isNon d) := by
  rw [c_isN]
  cases d <;> rfl
theorem c_isnN2 {h : Hs} {d : D} : cmpD h .IsNot d .non = some (!isNon d) := by
  rw [c_isnN]
  cases d <;> rfl
theorem in_non : isNon .non = true := rfl
theorem in_bl {b : Bool} : isNon (.bl b) = false := rfl
theorem in_int {b : Int} : isNon (.int b) = false := rfl
theorem in_str {b : List Nat} : isNon (.str b) = false := rfl
theorem in_tup {b : List D} : isNon (.tup b) = false := rfl
theorem in_lst {b : List D} : isNon (.lst b) = false := rfl
theorem in_ref {b : Nat} : isNon (.ref b) = false := rfl
section
variable {G : Gl} {h : Hs} {s t : List Nat} {xs ys : List D} {x y : D} {k i j : Nat}
theorem n_adds (q : s.length + t.length ≤ 1000000) : binD .Add (.str s) (.str t) h = .ok (.str (s ++ t)) h := b_adds q
theorem n_addt (q : xs.length + ys.length ≤ 1000000) : binD .Add (.tup xs) (.tup ys) h = .ok (.tup (xs ++ ys)) h := b_addt q
theorem n_addl (q : xs.length + ys.length ≤ 1000000) : binD .Add (.lst xs) (.lst ys) h = .ok (.lst (xs ++ ys)) h := b_addl q
theorem n_mod {a b : Int} (q : 0 < b) : binD .Mod (.int a) (.int b) h = .ok (.int (a % b)) h := b_mod q
theorem n_fdiv {a b : Int} (q : 0 < b ∧ b < 1073741824) : binD .FloorDiv (.int a) (.int b) h = .ok (.int (a / b)) h := b_fdiv q
theorem n_len (q : s.length ≤ 1000000) {nd : Bool} : biD .len nd [.str s] h = .ok (.int s.length) h := bi_len_str q
theorem n_lenR (e : h[k]? = some (.lst xs)) {nd : Bool} : biD .len nd [.ref k] h = .ok (.int xs.length) h := bi_len_ref e
theorem n_append (e : h[k]? = some (.lst xs)) (q : xs.length < 1000000) : mtD .append (.ref k) [x] h = .ok .non (h.set k (.lst (xs ++ [x]))) := m_append e q
theorem n_mtA (e : h[k]? = some (.lst xs)) : mtTy h .append (.ref k) = true := by rw [mt_append, e]; rfl
theorem n_mtE (e : h[k]? = some (.lst xs)) : mtTy h .extend (.ref k) = true := by rw [mt_extend, e]; rfl
theorem n_extend (e : h[k]? = some (.lst xs)) (q : xs.length + ys.length < 1000000) : mtD .extend (.ref k) [.lst ys] h = .ok .non (h.set k (.lst (xs ++ ys))) := m_extend e q
theorem n_ixR (e : h[k]? = some (.lst xs)) {c : Int} : ixD h (.ref k) (.int c) = L2.atI xs c := ix_lst e
theorem n_slR (e : h[k]? = some (.lst xs)) {lo hi : Option Int} : slD h (.ref k) lo hi = some (.lst (cutL xs lo hi)) := sl_ref e
theorem n_seqR (e : h[k]? = some (.lst xs)) : seqV h (.ref k) = some xs := by show (h[k]?).bind seqN = _; rw [e]; rfl
theorem n_lstR (e : h[k]? = some (.lst xs)) : lstV h (.ref k) = some xs := by show (h[k]?).bind seqN = _; rw [e]; rfl
theorem n_tupR (e : h[k]? = some (.lst xs)) {nd : Bool} : biD .tuple nd [.ref k] h = .ok (.tup xs) h := biT_v (n_lstR e)
theorem n_str {i : Int} (q : -10000 < i ∧ i < 10000) {nd : Bool} : biD .str nd [.int i] h = .ok (.str (intS i)) h := by
  have : i.natAbs.log2 < 1920 := by
    have h2 : i.natAbs.log2 ≤ i.natAbs := Nat.log2_le_self _
    by_cases e : i.natAbs = 0
    · rw [e]; decide
    · have := (Nat.log2_lt e (k := 14)).mpr (by omega)
      omega
  exact if_pos this
theorem n_strS {nd : Bool} : biD .str nd [.str s] h = .ok (.str s) h := rfl
theorem n_intB {b nd : Bool} : biD .int nd [.bl b] h = .ok (.int (if b then 1 else 0)) h := rfl
theorem tru_ref (e : h[k]? = some (.lst xs)) : truD h (.ref k) = some (!xs.isEmpty) := by
  show ((h[k]?).bind seqN).map _ = _
  rw [e]
  rfl
theorem cut_0 {α : Type} {l : List α} {k : Nat} : cutL l none (some (k : Int)) = l.take k := by
  unfold cutL
  rw [HT.sIx_nat, HT.sIx_none]
  simp
theorem cut_n {α : Type} {l : List α} {k : Nat} : cutL l (some (k : Int)) none = l.drop k := by
  unfold cutL
  rw [HT.sIx_nat, HT.sIx_none]
  by_cases e : k ≤ l.length
  · rw [Nat.min_eq_left e, List.take_of_length_le (by simp)]
  · rw [List.drop_eq_nil_of_le (by omega : l.length ≤ k), Nat.min_eq_right (by omega), List.drop_length]
    simp
theorem cut_kn {α : Type} {l : List α} {k n : Nat} : cutL l (some (k : Int)) (some (n : Int)) = (l.drop k).take (n - k) := by
  unfold cutL
  rw [HT.sIx_nat, HT.sIx_nat]
  by_cases e : k ≤ l.length
  · rw [Nat.min_eq_left e]
    by_cases e2 : n ≤ l.length
    · rw [Nat.min_eq_left e2]
    · rw [Nat.min_eq_right (by omega), List.take_of_length_le (by simp), List.take_of_length_le (by rw [List.length_drop]; omega)]
  · rw [List.drop_eq_nil_of_le (by omega : l.length ≤ k), Nat.min_eq_right (by omega : l.length ≤ k), List.drop_eq_nil_of_le (Nat.le_refl _)]
    simp
theorem cut_01 {α : Type} {l : List α} : cutL l none (some 1) = l.take 1 := cut_0 (k := 1)
theorem cut_1n {α : Type} {l : List α} : cutL l (some 1) none = l.drop 1 := cut_n (k := 1)
theorem cut_2n {α : Type} {l : List α} : cutL l (some 2) none = l.drop 2 := cut_n (k := 2)
theorem cut_3n {α : Type} {l : List α} : cutL l (some 3) none = l.drop 3 := cut_n (k := 3)
theorem cut_4n {α : Type} {l : List α} : cutL l (some 4) none = l.drop 4 := cut_n (k := 4)
theorem cut_6n {α : Type} {l : List α} : cutL l (some 6) none = l.drop 6 := cut_n (k := 6)
theorem cut_7n {α : Type} {l : List α} : cutL l (some 7) none = l.drop 7 := cut_n (k := 7)
theorem cut_12 {α : Type} {l : List α} : cutL l (some 1) (some 2) = (l.drop 1).take 1 := cut_kn (k := 1) (n := 2)
theorem cut_34 {α : Type} {l : List α} : cutL l (some 3) (some 4) = (l.drop 3).take 1 := cut_kn (k := 3) (n := 4)
theorem cut_35 {α : Type} {l : List α} : cutL l (some 3) (some 5) = (l.drop 3).take 2 := cut_kn (k := 3) (n := 5)
theorem cut_23 {α : Type} {l : List α} : cutL l (some 2) (some 3) = (l.drop 2).take 1 := cut_kn (k := 2) (n := 3)
theorem cut_02 {α : Type} {l : List α} : cutL l none (some 2) = l.take 2 := cut_0 (k := 2)
theorem cut_03 {α : Type} {l : List α} : cutL l none (some 3) = l.take 3 := cut_0 (k := 3)
theorem cut_07 {α : Type} {l : List α} : cutL l none (some 7) = l.take 7 := cut_0 (k := 7)
theorem at_2 {α : Type} {a b c : α} {l : List α} : L2.atI (a :: b :: c :: l) 2 = some c := L2.atI_nat (j := 2) rfl
theorem at_3 {α : Type} {a b c d : α} {l : List α} : L2.atI (a :: b :: c :: d :: l) 3 = some d := L2.atI_nat (j := 3) rfl
theorem at_4 {α : Type} {a b c d e : α} {l : List α} : L2.atI (a :: b :: c :: d :: e :: l) 4 = some e := L2.atI_nat (j := 4) rfl
theorem at_5 {α : Type} {a b c d e f : α} {l : List α} : L2.atI (a :: b :: c :: d :: e :: f :: l) 5 = some f := L2.atI_nat (j := 5) rfl
theorem at_6 {α : Type} {a b c d e f g : α} {l : List α} : L2.atI (a :: b :: c :: d :: e :: f :: g :: l) 6 = some g := L2.atI_nat (j := 6) rfl
theorem at_l1 {α : Type} {a : α} : L2.atI [a] (-1) = some a := L2.atI_last [] a
theorem at_lst {α : Type} {l : List α} {a : α} : L2.atI (l ++ [a]) (-1) = some a := L2.atI_last l a
theorem pl_strs {n : Nat} {ws : List (List Nat)} : ∀ z ∈ ws.map D.str, pl (n + 1) z = true := fun z hz => by
  obtain ⟨w, _, rfl⟩ := List.mem_map.mp hz
  rfl
theorem eqTs_strs : ∀ {ws vs : List (List Nat)}, eqTs (ws.map .str) (vs.map .str) = decide (ws = vs)
  | [], [] => rfl
  | [], _ :: _ => rfl
  | _ :: _, [] => rfl
  | w :: ws, v :: vs => by
    simp only [List.map_cons, eqTs, eqTs_strs (ws := ws) (vs := vs), eqT]
    by_cases e : w = v <;> by_cases e2 : ws = vs <;> simp [e, e2]
theorem eq_strs {ws vs : List (List Nat)} : cmpD h .Eq (.lst (ws.map .str)) (.lst (vs.map .str)) = some (decide (ws = vs)) := by
  rw [c_eq (pl_lst pl_strs) (pl_lst pl_strs)]
  simp only [eqT, eqTs_strs]
theorem ne_strs {ws vs : List (List Nat)} : cmpD h .NotEq (.lst (ws.map .str)) (.lst (vs.map .str)) = some (!decide (ws = vs)) := by
  rw [c_ne (pl_lst pl_strs) (pl_lst pl_strs)]
  simp only [eqT, eqTs_strs]
theorem eq_s11 {w v : List Nat} : cmpD h .Eq (.lst [.str w]) (.lst [.str v]) = some (decide (w = v)) := by
  have := eq_strs (h := h) (ws := [w]) (vs := [v])
  simpa using this
theorem ne_s11 {w v : List Nat} : cmpD h .NotEq (.lst [.str w]) (.lst [.str v]) = some (!decide (w = v)) := by
  have := ne_strs (h := h) (ws := [w]) (vs := [v])
  simpa using this
theorem eq_s01 {v : List Nat} : cmpD h .Eq (.lst []) (.lst [.str v]) = some false := rfl
theorem ne_s01 {v : List Nat} : cmpD h .NotEq (.lst []) (.lst [.str v]) = some true := rfl
theorem eq_s00 : cmpD h .Eq (.lst []) (.lst []) = some true := rfl
theorem pl_lstn {n : Nat} : pl (n + 1) (.lst xs) = xs.all (pl n) := rfl
theorem pl_tupn {n : Nat} : pl (n + 1) (.tup xs) = xs.all (pl n) := rfl
theorem pl_strn {n : Nat} {w : List Nat} : pl (n + 1) (.str w) = true := rfl
theorem pl_intn {n : Nat} {w : Int} : pl (n + 1) (.int w) = true := rfl
theorem pl_bln {n : Nat} {w : Bool} : pl (n + 1) (.bl w) = true := rfl
theorem pl_nonn {n : Nat} : pl (n + 1) .non = true := rfl
theorem all_mapn {n : Nat} {ws : List (List Nat)} : (ws.map D.str).all (pl (n + 1)) = true := List.all_eq_true.mpr pl_strs
theorem all_mapI {n : Nat} {ws : List Int} : (ws.map D.int).all (pl (n + 1)) = true := List.all_eq_true.mpr fun z hz => by
  obtain ⟨w, _, rfl⟩ := List.mem_map.mp hz
  rfl
theorem end_bl {b : Bool} : endCall .pure h (.ok (.bl b) h) = .ok (.bl b) h := end_pure0 rfl
theorem end_non : endCall .pure h (.ok .non h) = .ok .non h := end_pure0 rfl
theorem end_str {s : List Nat} : endCall .pure h (.ok (.str s) h) = .ok (.str s) h := end_pure0 rfl
theorem end_int {i : Int} : endCall .pure h (.ok (.int i) h) = .ok (.int i) h := end_pure0 rfl
theorem eq_ln (q : pl 40 (.lst (x :: xs)) = true) : cmpD h .Eq (.lst (x :: xs)) (.lst []) = some false := by
  rw [c_eq q rfl]
  rfl
theorem ne_ln (q : pl 40 (.lst (x :: xs)) = true) : cmpD h .NotEq (.lst (x :: xs)) (.lst []) = some true := by
  rw [c_ne q rfl]
  rfl
theorem eq_nl (q : pl 40 (.lst (x :: xs)) = true) : cmpD h .Eq (.lst []) (.lst (x :: xs)) = some false := by
  rw [c_eq rfl q]
  rfl
theorem ne_n0 : cmpD h .NotEq (.lst []) (.lst []) = some false := rfl
theorem end_plA (q : pl 40 x = true) {t : Hs} : endCall .pure h (.ok x (h ++ t)) = .ok x h := end_pure q
theorem in_l2 {w a b : List Nat} : cmpD h .In (.lst [.str w]) (.tup [.lst [.str a], .lst [.str b]]) = some (decide (w = a) || decide (w = b)) := by
  rw [c_in_tup rfl (fun z hz => by
    simp only [List.mem_cons, List.not_mem_nil, or_false] at hz
    rcases hz with rfl | rfl <;> rfl)]
  simp only [List.any_cons, List.any_nil, eqT, eqTs, Bool.and_true, Bool.or_false]
  congr 1
  have e : ∀ u v : List Nat, (u == v) = decide (v = u) := fun u v => by
    by_cases z : v = u
    · simp [z]
    · simp [z, Ne.symm z]
  rw [e, e]
theorem in_l0 {a b : List Nat} : cmpD h .In (.lst []) (.tup [.lst [.str a], .lst [.str b]]) = some false := rfl
theorem in_s2 {w a b : List Nat} : cmpD h .In (.str w) (.tup [.str a, .str b]) = some (decide (w = a) || decide (w = b)) := by
  rw [c_in_tup rfl (fun z hz => by
    simp only [List.mem_cons, List.not_mem_nil, or_false] at hz
    rcases hz with rfl | rfl <;> rfl)]
  simp only [List.any_cons, List.any_nil, eqT, Bool.or_false]
  congr 1
  have e : ∀ u v : List Nat, (u == v) = decide (v = u) := fun u v => by
    by_cases z : v = u
    · simp [z]
    · simp [z, Ne.symm z]
  rw [e, e]
theorem nin_s2 {w a b : List Nat} : cmpD h .NotIn (.str w) (.tup [.str a, .str b]) = some (!(decide (w = a) || decide (w = b))) := by
  show (cmpD h .In (.str w) (.tup [.str a, .str b])).map _ = _
  rw [in_s2]
  rfl
end
end L2.MP
namespace L2.MP
open PySem
def evB0 := And.intro @evSs_nil (And.intro @nx_nx (And.intro @nx_rt (And.intro @evS.eq_1 (And.intro @evS.eq_2 (And.intro @evS.eq_3 (And.intro @evS.eq_4 (And.intro @evS.eq_5 (And.intro @evS.eq_6 (And.intro @evS.eq_7 (And.intro @evS_for (And.intro @evS_whl (And.intro @evS.eq_10 (And.intro @evS.eq_11 (And.intro @evS.eq_12 (And.intro @evS.eq_13 (And.intro @evS.eq_14 (And.intro @evS.eq_15 (And.intro @evS.eq_16 (And.intro @evE.eq_1 (And.intro @evE.eq_2 (And.intro @evE.eq_3 (And.intro @evE.eq_4 (And.intro @evE.eq_5 (And.intro @evE.eq_6 (And.intro @evE.eq_7 (And.intro @evE.eq_8 (And.intro @evE.eq_9 (And.intro @evE.eq_10 (And.intro @evE.eq_11 (And.intro @evE.eq_12 (And.intro @evE.eq_13 (And.intro @evE.eq_14 (And.intro @evE.eq_15 (And.intro @evE.eq_16 (And.intro @evE_lc (And.intro @evE_lc2 (And.intro @evE.eq_19 (And.intro @evE.eq_20 (@evE.eq_21)))))))))))))))))))))))))))))))))))))))
def evB1 := And.intro @evE.eq_28 (And.intro @evE.eq_29 (And.intro @evE.eq_30 (And.intro @evE.eq_22 (And.intro @evE.eq_23 (And.intro @evE.eq_24 (And.intro @evE.eq_25 (And.intro @evE.eq_27 (And.intro @R.bind_ok (And.intro @R.bind_exc (And.intro @R.q_ok (And.intro @R.q_exc (And.intro @R.of_some (And.intro @R.nox_ok (And.intro @Q.bind_nx (And.intro @Q.bind_rt (And.intro @Q.bind_bk (And.intro @Q.bind_ct (And.intro @Q.bind_exc (And.intro @fin_rt (And.intro @fin_nx (And.intro @fin_exc (And.intro @List.getElem?_cons_zero.{0} (And.intro @List.getElem?_cons_succ.{0} (And.intro @List.set_cons_zero.{0} (And.intro @List.set_cons_succ.{0} (And.intro @srcOf_ref (And.intro @srcOf_lst (And.intro @srcOf_tup (And.intro @Bool.false_eq_true (And.intro @Bool.true_eq_false (And.intro @Bool.not_true (And.intro @Bool.not_false (And.intro @decide_true (And.intro @decide_false (And.intro @t_bl (And.intro @t_int (And.intro @t_non (And.intro @t_tup (And.intro @t_lst (@c_lt))))))))))))))))))))))))))))))))))))))))
def evB2 := And.intro @c_le (And.intro @c_gt (And.intro @c_ge (And.intro @c_eqi (And.intro @c_nei (And.intro @c_eqs (And.intro @c_nes (And.intro @c_isN2 (And.intro @c_isnN2 (And.intro @in_non (And.intro @in_bl (And.intro @in_int (And.intro @in_str (And.intro @in_tup (And.intro @in_lst (And.intro @in_ref (And.intro @c_isB (And.intro @c_isnB (And.intro @b_add (And.intro @b_sub (And.intro @ix_tup (And.intro @ix_frz (And.intro @ix_scr (And.intro @at0 (And.intro @at1 (And.intro @isTys_nil (And.intro @isTys_cons (And.intro @ty_int_non (And.intro @ty_int_bl (And.intro @ty_int_int (And.intro @ty_int_str (And.intro @ty_int_tup (And.intro @ty_int_lst (And.intro @ty_int_dic (And.intro @ty_bool_non (And.intro @ty_bool_bl (And.intro @ty_bool_int (And.intro @ty_bool_str (And.intro @ty_bool_tup (@ty_bool_lst)))))))))))))))))))))))))))))))))))))))
def evB3 := And.intro @ty_bool_dic (And.intro @ty_str_non (And.intro @ty_str_bl (And.intro @ty_str_int (And.intro @ty_str_str (And.intro @ty_str_tup (And.intro @ty_str_lst (And.intro @ty_str_dic (And.intro @ty_tuple_non (And.intro @ty_tuple_bl (And.intro @ty_tuple_int (And.intro @ty_tuple_str (And.intro @ty_tuple_tup (And.intro @ty_tuple_lst (And.intro @ty_tuple_dic (And.intro @ty_list_non (And.intro @ty_list_bl (And.intro @ty_list_int (And.intro @ty_list_str (And.intro @ty_list_tup (And.intro @ty_list_lst (And.intro @ty_list_dic (And.intro @ty_dict_non (And.intro @ty_dict_bl (And.intro @ty_dict_int (And.intro @ty_dict_str (And.intro @ty_dict_tup (And.intro @ty_dict_lst (And.intro @ty_dict_dic (And.intro @ty_err_exn (And.intro @ty_own_exn (And.intro @bi_len_scr (And.intro @bi_len_tup (And.intro @bi_len_lst (And.intro @bi_tuple_lst (And.intro @bi_tuple_tup (And.intro @bi_list_lst (And.intro @bi_list_tup (And.intro @bi_max (@bi_min)))))))))))))))))))))))))))))))))))))))
def evB4 := And.intro @mt_part (And.intro @mt_split (And.intro @mt_splitN (And.intro @mt_join (And.intro @sl_tup (And.intro @sl_lst (And.intro @end_raw (And.intro @Option.bind_some.{0,0} (And.intro @Option.map_some.{0,0} (And.intro @chk_nil (And.intro @List.append_nil.{0} (And.intro @okR_ok (And.intro @okQ_ok (And.intro @c_ins (And.intro @c_nins (And.intro @Int.cast_ofNat_Int (And.intro @List.length_cons.{0} (And.intro @List.length_nil.{0} (And.intro @List.cons.injEq.{0} (And.intro @and_self (And.intro @and_true (And.intro @true_and (And.intro @and_false (And.intro @false_and (And.intro @Nat.zero_add (And.intro @not_true_eq_false (And.intro @not_false_eq_true (And.intro @Bool.true_and (And.intro @Bool.and_true (And.intro @Bool.false_and (And.intro @Bool.and_false (And.intro @Bool.true_or (And.intro @Bool.or_true (And.intro @Bool.false_or (And.intro @Bool.or_false (And.intro @beq_self_eq_true.{0} (And.intro @or_false (And.intro @false_or (@or_self))))))))))))))))))))))))))))))))))))))
def evB5 := And.intro @gA20 (And.intro @sA20 (And.intro @gA21 (And.intro @sA21 (And.intro @gA30 (And.intro @sA30 (And.intro @gA31 (And.intro @sA31 (And.intro @gA32 (And.intro @sA32 (And.intro @gA40 (And.intro @sA40 (And.intro @gA41 (And.intro @sA41 (And.intro @gA42 (And.intro @sA42 (And.intro @gA43 (And.intro @sA43 (And.intro @get_app_self (And.intro @set_app_self (And.intro @d_lt (And.intro @d_nlt (And.intro @d_le (And.intro @d_nle (And.intro @d_eq (And.intro @d_neq (And.intro @rng_if (And.intro @rng_if2 (And.intro @lim_if (And.intro @le_limT (And.intro @lt_limT (And.intro @List.cons_append.{0} (And.intro @List.nil_append.{0} (And.intro @n_adds (And.intro @n_addt (And.intro @n_addl (And.intro @n_mod (And.intro @n_fdiv (@n_len))))))))))))))))))))))))))))))))))))))
def evB6 := And.intro @n_lenR (And.intro @n_append (And.intro @n_mtA (And.intro @n_mtE (And.intro @n_extend (And.intro @n_ixR (And.intro @n_slR (And.intro @n_seqR (And.intro @n_lstR (And.intro @n_tupR (And.intro @n_str (And.intro @n_strS (And.intro @n_intB (And.intro @tru_ref (And.intro @cut_01 (And.intro @cut_1n (And.intro @cut_2n (And.intro @cut_3n (And.intro @cut_4n (And.intro @cut_6n (And.intro @cut_7n (And.intro @cut_12 (And.intro @cut_34 (And.intro @cut_35 (And.intro @cut_23 (And.intro @cut_02 (And.intro @cut_03 (And.intro @cut_07 (And.intro @at_2 (And.intro @at_3 (And.intro @at_4 (And.intro @at_5 (And.intro @at_6 (And.intro @at_l1 (And.intro @at_lst (And.intro @eq_s11 (And.intro @ne_s11 (And.intro @eq_s01 (And.intro @ne_s01 (@eq_s00)))))))))))))))))))))))))))))))))))))))
def evB7 := And.intro @eq_ln (And.intro @ne_ln (And.intro @eq_nl (And.intro @ne_n0 (And.intro @end_bl (And.intro @end_non (And.intro @end_str (And.intro @end_int (And.intro @in_l2 (And.intro @in_l0 (And.intro @in_s2 (And.intro @nin_s2 (And.intro @List.take_succ_cons.{0} (And.intro @List.take_zero.{0} (And.intro @List.take_nil.{0} (And.intro @List.drop_succ_cons.{0} (And.intro @List.drop_zero.{0} (And.intro @List.drop_nil.{0} (And.intro @List.map_cons.{0,0} (And.intro @List.map_nil.{0,0} (And.intro @List.length_map.{0,0} (And.intro @List.length_append.{0} (And.intro @Int.natCast_add (@Int.natCast_zero)))))))))))))))))))))))
def evP0 := And.intro @pl_lstn (And.intro @pl_tupn (And.intro @pl_strn (And.intro @pl_intn (And.intro @pl_bln (And.intro @pl_nonn (And.intro @all_mapn (And.intro @all_mapI (And.intro @List.all_cons.{0} (And.intro @List.all_nil.{0} (And.intro @Bool.and_self (@Bool.and_true)))))))))))
def evL0 := And.intro @List.length_cons.{0} (And.intro @List.length_nil.{0} (And.intro @List.length_append.{0} (@List.length_map.{0,0})))
end L2.MP
namespace L2.MP
open PySem
abbrev Wd := List Nat
def ofS : Wd := [111, 102]
section
variable {x : IX} {G : Gl} {Fs : List Fn}
def SW (ws : List Wd) : Prop := ∀ w ∈ ws, w.length ≤ 900000
end
end L2.MP
namespace L2.MP
open PySem
def adr (L : Nat) : Nat → Nat
  | 0 => L
  | k + 1 => L + 2 + k
def refsG (L n : Nat) : List D := (List.range n).map fun k => .ref (adr L k)
def tailG (L : Nat) : List (List D) → Hs
  | [] => []
  | g :: r => .lst g :: .lst (refsG L (r.length + 1)) :: r.map Nd.lst
theorem tail_top {h0 : Hs} {gs : List (List D)} (hg : gs ≠ []) : (h0 ++ tailG h0.length gs)[h0.length + 1]? = some (.lst (refsG h0.length gs.length)) := by
  cases gs with
  | nil => exact absurd rfl hg
  | cons g r =>
    rw [List.getElem?_append_right (by omega), show h0.length + 1 - h0.length = 1 by omega]
    rfl
theorem tail_get {h0 : Hs} {gs : List (List D)} {k : Nat} {g : List D} (hk : gs[k]? = some g) : (h0 ++ tailG h0.length gs)[adr h0.length k]? = some (.lst g) := by
  cases gs with
  | nil => cases hk
  | cons g0 r =>
    cases k with
    | zero =>
      rw [List.getElem?_append_right (by simp [adr]), show adr h0.length 0 - h0.length = 0 by simp [adr]]
      cases hk
      rfl
    | succ k =>
      rw [List.getElem?_append_right (by simp [adr]; omega), show adr h0.length (k + 1) - h0.length = k + 2 by simp [adr]; omega]
      simp only [List.getElem?_cons_succ] at hk
      simp only [tailG, List.getElem?_cons_succ, List.getElem?_map, hk, Option.map_some]
theorem refs_succ {L n : Nat} : refsG L (n + 1) = refsG L n ++ [.ref (adr L n)] := by simp [refsG, List.range_succ]
theorem refs_last {L n : Nat} : L2.atI (refsG L (n + 1)) (-1) = some (.ref (adr L n)) := by
  rw [refs_succ, L2.atI_last]
theorem range_get {α : Type} {F : List D → α} {gs : List (List D)} : (List.range gs.length).map (fun k => F ((gs[k]?).getD [])) = gs.map F := by
  refine List.ext_getElem? fun j => ?_
  by_cases h : j < gs.length
  · simp [h]
  · simp [h]
def addLG : List (List D) → D → List (List D)
  | [], _ => []
  | [g], l => [g ++ [l]]
  | g :: r, l => g :: addLG r l
theorem addLG_app {g : List D} {l : D} : ∀ {ini : List (List D)}, addLG (ini ++ [g]) l = ini ++ [g ++ [l]]
  | [] => rfl
  | [a] => rfl
  | a :: b :: r => by
    have := addLG_app (g := g) (l := l) (ini := b :: r)
    simp only [List.cons_append] at this ⊢
    simp only [addLG, this]
def grpStep (word : Wd) (gs : List (List D)) (p : Wd × D) : List (List D) := if p.1 = word then gs ++ [[p.2]] else addLG gs p.2
def grpL (word : Wd) (lits : List D) (joins : List Wd) : List (List D) := match lits with
  | [] => []
  | l :: r => (joins.zip r).foldl (grpStep word) [[l]]
section
variable {x : IX} {G : Gl} {Fs : List Fn}
/-- what the steps keep: some group, no more than so many in all -/
def GrI (n : Nat) (gs : List (List D)) : Prop := gs ≠ [] ∧ gs.length ≤ n ∧ ∀ g ∈ gs, g.length ≤ n
theorem GrI.step {n : Nat} {gs : List (List D)} {word : Wd} {p : Wd × D} (h : GrI n gs) : GrI (n + 1) (grpStep word gs p) := by
  obtain ⟨h1, h2, h3⟩ := h
  unfold grpStep
  split
  · refine ⟨by simp, by simp only [List.length_append, List.length_cons, List.length_nil]; omega, fun g hg => ?_⟩
    rcases List.mem_append.mp hg with hg | hg
    · have := h3 g hg; omega
    · rw [List.mem_singleton.mp hg]; simp
  · obtain ⟨ini, g, rfl⟩ : ∃ ini g, gs = ini ++ [g] := ⟨gs.dropLast, gs.getLast h1, (List.dropLast_concat_getLast h1).symm⟩
    rw [addLG_app]
    refine ⟨by simp, by simp only [List.length_append, List.length_cons, List.length_nil] at h2 ⊢; omega, fun y hy => ?_⟩
    rcases List.mem_append.mp hy with hy | hy
    · have := h3 y (by simp [hy]); omega
    · rw [List.mem_singleton.mp hy]
      have := h3 g (by simp)
      simp only [List.length_append, List.length_cons, List.length_nil]; omega
def andW : Wd := [97, 110, 100]
def orW : Wd := [111, 114]
/-- the readings of some joined literals -/
def readsL (lits : List D) (js : List Wd) : List D := if andW ∈ js ∧ orW ∈ js then [.tup [.str orW, .tup ((grpL orW lits js).map .tup)], .tup [.str andW, .tup ((grpL andW lits js).map .tup)]] else [.tup [.str orW, .tup ((grpL orW lits js).map .tup)]]
end
end L2.MP
namespace L2.MP
open PySem
section
variable {x : IX} {G : Gl} {Fs : List Fn}
theorem SW.of {p r : List Wd} (h : SW (p ++ r)) : SW r := fun w hw => h w (by simp [hw])
end
end L2.MP
namespace L2.MP
open PySem
section
variable {x : IX} {G : Gl} {Fs : List Fn}
def yesW : Wd := [121, 101, 115]
def noW : Wd := [110, 111]
def plusW : Wd := [112, 108, 117, 115]
def timesW : Wd := [116, 105, 109, 101, 115]
def sectW : Wd := [115, 101, 99, 116, 105, 111, 110]
def anyW : Wd := [97, 110, 121]
def meansW : Wd := [109, 101, 97, 110, 115]
def ifW : Wd := [105, 102]
def unlessW : Wd := [117, 110, 108, 101, 115, 115]
def subjW : Wd := [115, 117, 98, 106, 101, 99, 116]
def notwW : Wd := [110, 111, 116, 119, 105, 116, 104, 115, 116, 97, 110, 100, 105, 110, 103]
def toW : Wd := [116, 111]
end
end L2.MP
namespace L2.MP
open PySem
end L2.MP
namespace L2.MP
open PySem
def dg (n : Nat) : List Nat := if n < 10 then [48 + n] else dg (n / 10) ++ [48 + n % 10]
termination_by n
decreasing_by omega
theorem digc : ∀ d : Nat, d < 10 → (Nat.digitChar d).toNat = 48 + d := by decide
theorem digs_dg : ∀ n : Nat, (Nat.toDigits 10 n).map Char.toNat = dg n := by
  intro n
  induction n using Nat.strongRecOn with
  | _ n ih =>
    unfold dg
    by_cases h : n < 10
    · rw [if_pos h, Nat.toDigits_of_lt_base h]
      simp [digc n h]
    · rw [if_neg h, Nat.toDigits_of_base_le (by decide) (by omega), List.map_append, ih (n / 10) (by omega)]
      simp [digc (n % 10) (by omega)]
theorem intS_dg (n : Nat) : intS (n : Int) = dg n := by
  have h := PySem.W.KIN.signs_num n
  have : intS (n : Int) = (PySem.Str.ofString (toString ((n : Nat) : Int))).cps.toList := rfl
  rw [this, h, digs_dg]
theorem dg_len {n : Nat} : ∀ {k : Nat}, 1 ≤ k → n < 10 ^ k → (dg n).length ≤ k ∧ 1 ≤ (dg n).length := by
  intro k
  induction k generalizing n with
  | zero => intro h; omega
  | succ k ih =>
    intro _ h
    unfold dg
    split
    · simp
    · have hk : 1 ≤ k := by
        cases k with
        | zero => simp at h; omega
        | succ k => omega
      have := ih (n := n / 10) hk (by rw [Nat.pow_succ] at h; omega)
      simp only [List.length_append, List.length_cons, List.length_nil]
      omega
end L2.MP
namespace L2.MP
open PySem
inductive LS where
  | is (w : Wd) | no (w : Wd) | wi (w : Wd) (n : Int) | ab (w : Wd) (n : Int) | be (w : Wd) (n : Int)
namespace LS
def W : LS → List Wd
  | is w => [w]
  | no w => [notS, w]
  | wi w n => [withinS, intS n, ofS, w]
  | ab w n => [w, aboveS, intS n]
  | be w n => [w, belowS, intS n]
def V : LS → D
  | is w => .tup [.str isS, .str w]
  | no w => .tup [.str notS, .str w]
  | wi w n => .tup [.str withinS, .str w, .int n]
  | ab w n => .tup [.str aboveS, .str w, .int n]
  | be w n => .tup [.str belowS, .str w, .int n]
def ok : LS → Prop
  | is w => isNameS w = true
  | no w => isNameS w = true
  | wi w n => isNameS w = true ∧ 0 ≤ n ∧ n ≤ 9999
  | ab w n => isNameS w = true ∧ 0 ≤ n ∧ n ≤ 9999
  | be w n => isNameS w = true ∧ 0 ≤ n ∧ n ≤ 9999
end LS
/-- joined literals -/
def flatW (ps : List (Wd × LS)) : List Wd := (ps.map fun p => p.1 :: p.2.W).flatten
def okP (p : Wd × LS) : Prop := (p.1 = andW ∨ p.1 = orW) ∧ p.2.ok
inductive CS where
  | yes (w : Wd) | no (w : Wd) | isN (w : Wd) (n : Int) | isP (w : Wd) (n k : Int) (o : Wd)
namespace CS
def W : CS → List Wd
  | yes w => [w]
  | no w => [notS, w]
  | isN w n => [w, isS, intS n]
  | isP w n k o => [w, isS, intS n, plusW, intS k, timesW, o]
def V : CS → D
  | yes w => .tup [.str yesW, .str w]
  | no w => .tup [.str noW, .str w]
  | isN w n => .tup [.str isS, .str w, .int n, .int 0, .non]
  | isP w n k o => .tup [.str isS, .str w, .int n, .int k, .str o]
def ok : CS → Prop
  | yes w => isNameS w = true
  | no w => isNameS w = true
  | isN w n => isNameS w = true ∧ 0 ≤ n ∧ n ≤ 9999
  | isP w n k o => isNameS w = true ∧ (0 ≤ n ∧ n ≤ 9999) ∧ (0 ≤ k ∧ k ≤ 9999) ∧ isNameS o = true
end CS
/-- an order: subject to (true) or notwithstanding, section or any, label, of name -/
structure OS where
  sub : Bool
  sect : Wd
  lab : Wd
  nm : Option Wd
namespace OS
def W (o : OS) : List Wd := (if o.sub = true then [subjW, toW] else [notwW]) ++ ([o.sect, o.lab] ++ (match o.nm with
  | none => []
  | some n => [ofS, n]))
def V (o : OS) (n : Int) : D := if o.sub = true then .tup [.str subjW, .int (n + 3)] else .tup [.str notwW, .int (n + 2)]
def ok (o : OS) : Prop := (o.sect = sectW ∨ o.sect = anyW) ∧ isLabel (.str o.lab) = true ∧ ∀ n, o.nm = some n → isNameS n = true
end OS
def AW (ws : List Wd) : Prop := ∀ w ∈ ws, isWordS w = true
theorem AW.app {a b : List Wd} (h : AW a) (k : AW b) : AW (a ++ b) := fun w hw => (List.mem_append.mp hw).elim (h w) (k w)
theorem AW.cons {a : Wd} {b : List Wd} (h : isWordS a = true) (k : AW b) : AW (a :: b) := fun w hw => (List.mem_cons.mp hw).elim (fun e => e ▸ h) (k w)
theorem AW.nil : AW [] := fun _ h => nomatch h
/-- if (true) or unless, a condition -/
structure MS where
  b : Bool
  l0 : LS
  ps : List (Wd × LS)
namespace MS
def W (m : MS) : List Wd := (if m.b = true then ifW else unlessW) :: (m.l0.W ++ flatW m.ps)
def ok (m : MS) : Prop := m.l0.ok ∧ (∀ p ∈ m.ps, okP p) ∧ m.ps.length ≤ 5
def N (m : MS) : Wd := if m.b = true then ifW else unlessW
def B (m : MS) : D := .tup (readsL (m.l0.V :: m.ps.map (·.2.V)) (m.ps.map (·.1)))
end MS
end L2.MP
namespace L2.MP
open PySem
end L2.MP
namespace L2.MP
open PySem
section
variable {G : Gl} {Fs : List Fn} {cs : List Int} {i : Nat} {h0 h : Hs} {fd fq fl fc fg fb fn fa fo f : Nat}
theorem LS.len (l : LS) : 1 ≤ l.W.length ∧ l.W.length ≤ 4 := by cases l <;> simp [LS.W]
/-- the nodes know no later ones -/
def RefB (h0 : Hs) : Prop := ∀ nd ∈ h0, refN h0.length nd = true
theorem refBs_all {n : Nat} : ∀ {xs : List D}, (∀ x ∈ xs, refB n x = true) → refBs n xs = true
  | [], _ => rfl
  | x :: xs, h => by
    have h1 := h x (by simp)
    have h2 := refBs_all (n := n) (xs := xs) fun y hy => h y (by simp [hy])
    simp only [refBs, h1, h2, Bool.and_self]
end
end L2.MP
namespace L2.MP
open PySem
section
variable {G : Gl} {Fs : List Fn} {cs : List Int} {i : Nat} {h0 h : Hs} {fd fq fl fc fg fb fn fa fo f : Nat}
def ordB (o : OS) : Int := if o.sub = true then 3 else 2
end
end L2.MP
namespace L2.MP
open PySem
theorem CS.len (c : CS) : 1 ≤ c.W.length ∧ c.W.length ≤ 7 := by cases c <;> simp [CS.W]
theorem OS.len (o : OS) : 3 ≤ o.W.length ∧ o.W.length ≤ 6 := by
  obtain ⟨sub, s, l, nm⟩ := o
  cases sub <;> cases nm <;> simp [OS.W]
theorem CS.ix (c : CS) {h : Hs} : ∃ w, ixD h c.V (.int 0) = some (.str w) ∧ w ≠ meansW := by
  cases c with
  | yes w => exact ⟨yesW, by simp only [CS.V, ix_tup, at0], by decide⟩
  | no w => exact ⟨noW, by simp only [CS.V, ix_tup, at0], by decide⟩
  | isN w n => exact ⟨isS, by simp only [CS.V, ix_tup, at0], by decide⟩
  | isP w n k o => exact ⟨isS, by simp only [CS.V, ix_tup, at0], by decide⟩
theorem OS.cons (o : OS) : ∃ w r, o.W = w :: r := by
  obtain ⟨sub, s, l, nm⟩ := o
  cases sub <;> exact ⟨_, _, rfl⟩
section
variable {G : Gl} {Fs : List Fn} {cs : List Int} {i : Nat} {h0 h : Hs} {fd fq fl fc fg fb fn fa fo f : Nat}
def HT (oo : Option OS) (tw : Wd) (tb : Int) : Prop := ∀ q, oo = some q → tw = (if q.sub = true then subjW else notwW) ∧ tb = ordB q
end
end L2.MP
namespace L2.MP
open PySem
end L2.MP
namespace L2.MP
open PySem
theorem forL_rng {s : Src} {f : D → Sl → Hs → Q} (I : Nat → Sl → Hs → Prop) {n : Nat} (hc : ∀ k sl h, I k sl h → chk s h = true)
    (st : ∀ k, k < n → ∀ sl h, I k sl h → okQ (f (.int (0 + (k : Nat))) sl h) fun F sl' h' => F = .nx ∧ I (k + 1) sl' h') {sl : Sl} {h : Hs} (i0 : I 0 sl h) : okQ (forL s f (rangeL 0 n) sl h) fun F sl' h' => F = .nx ∧ I n sl' h' := by
  have q := forL_pre (s := s) (f := f) (fun pre sl h => I pre.length sl h) (fun _ _ _ i => hc _ _ _ i) (xs := rangeL 0 n) (done := []) (sl := sl) (h := h) (fun pre x post sl h he i => ?_) i0
  · simpa [rangeL] using q
  · have hl : pre.length < n := by
      have := congrArg List.length he
      simp [rangeL] at this
      omega
    have hx : x = .int (0 + (pre.length : Nat)) := by
      have := congrArg (fun l => l[pre.length]?) he
      simp [rangeL, List.getElem?_range hl] at this
      rw [← this]
      simp
    rw [hx]
    simpa using st pre.length hl sl h i
end L2.MP
namespace L2.MP
open PySem
section
variable {G : Gl} {Fs : List Fn} {h : Hs} {f : Nat}
/-- the plain form of a literal -/
def LS.P : LS → D
  | .no w => .tup [.str isS, .str w]
  | l => l.V
def Pls (n : Nat) (fs : List D) : Prop := (∀ z ∈ fs, pl 2 z = true) ∧ fs.length ≤ n
theorem Pls.app {n : Nat} {fs : List D} (p : Pls n fs) {z : D} (hz : pl 2 z = true) : Pls (n + 1) (fs ++ [z]) := by
  refine ⟨fun y hy => ?_, by have := p.2; simp only [List.length_append, List.length_cons, List.length_nil]; omega⟩
  rcases List.mem_append.mp hy with hy | hy
  · exact p.1 y hy
  · rw [List.mem_singleton.mp hy]
    exact hz
end
end L2.MP
namespace L2.MP
open PySem
section
variable {G : Gl} {Fs : List Fn} {cs : List Int} {i : Nat} {h0 h : Hs} {fd fq fl fp f : Nat}
theorem Pls.mono {n m : Nat} {fs : List D} (p : Pls n fs) (h : n ≤ m) : Pls m fs := ⟨p.1, Nat.le_trans p.2 h⟩
theorem Pls.node {i : Nat} {n : Nat} {fs : List D} (p : Pls n fs) (q : PoolB cs i (h0 ++ [.lst fs]) h) (hi : i < h0.length) : h[h0.length]? = some (.lst fs) := by
  rw [q.other (by omega), get_app_self]
theorem Pls.put {i : Nat} {fs gs : List D} (q : PoolB cs i (h0 ++ [.lst fs]) h) (hi : i < h0.length) : PoolB cs i (h0 ++ [.lst gs]) (h.set h0.length (.lst gs)) := by
  have := PoolB.setO (p := q) (j := h0.length) (nd := .lst gs) (by omega)
  rw [set_app_self] at this
  exact this
end
end L2.MP
namespace L2.MP
open PySem
theorem LS.lt {l : LS} (h : l.ok) : Lt l.V := by
  cases l with
  | is w => exact .inl ⟨isS, w, rfl, .inl rfl, h⟩
  | no w => exact .inl ⟨notS, w, rfl, .inr rfl, h⟩
  | wi w n => exact .inr ⟨withinS, w, n, rfl, .inr (.inr rfl), h.1, h.2.1, h.2.2⟩
  | ab w n => exact .inr ⟨aboveS, w, n, rfl, .inl rfl, h.1, h.2.1, h.2.2⟩
  | be w n => exact .inr ⟨belowS, w, n, rfl, .inr (.inl rfl), h.1, h.2.1, h.2.2⟩
end L2.MP
namespace KX
open PySem L2 L2.MP
def cf : Cf := ⟨["is_integer", "is_word", "is_word_list", "is_line", "split_line", "is_same", "validate_lines", "validate_both", "edit_table", "is_edit_table", "_law_pool", "_law_draw", "_law_choose", "_law_best", "_law_expected", "_law_altered", "law"], ["InvalidLine", "InvalidLines"], ["KEYWORDS", "LETTERS", "DIGITS", "MAX_LENGTH", "MAX_WORDS", "MAX_LINES", "MAX_WANTED"], [(58, 12), (60, 14), (58, 13), (78, 11), (89, 15), (99, 29), (99, 33), (101, 19), (113, 17)], [], ["_law_draw", "_law_choose", "_law_best", "_law_altered", "edit_table", "_law_pool"], [some 0, some 0], true, [(132, 25)], [], [], [(69, 11)]⟩
def gl : Gl := ⟨[.tup [.str [97, 98, 111, 118, 101], .str [97, 99, 116], .str [97, 102, 116, 101, 114], .str [97, 110, 100], .str [97, 110, 121], .str [98, 101, 99, 111, 109, 101, 115], .str [98, 101, 102, 111, 114, 101], .str [98, 101, 108, 111, 119], .str [101, 120, 99, 101, 112, 116], .str [102, 105, 114, 115, 116], .str [102, 111, 114], .str [102, 114, 111, 109], .str [104, 101, 114, 101], .str [105, 102], .str [105, 110], .str [105, 115], .str [108, 105, 110, 101], .str [109, 101, 97, 110, 115], .str [110, 111, 116], .str [110, 111, 116, 119, 105, 116, 104, 115, 116, 97, 110, 100, 105, 110, 103], .str [111, 102], .str [111, 114], .str [112, 108, 117, 115], .str [112, 117, 116], .str [114, 101, 112, 101, 97, 108, 101, 100], .str [115, 101, 99, 116, 105, 111, 110], .str [115, 117, 98, 106, 101, 99, 116], .str [116, 105, 109, 101, 115], .str [116, 111], .str [117, 110, 108, 101, 115, 115], .str [117, 110, 116, 105, 108], .str [119, 105, 116, 104, 105, 110]], .str [97, 98, 99, 100, 101, 102, 103, 104, 105, 106, 107, 108, 109, 110, 111, 112, 113, 114, 115, 116, 117, 118, 119, 120, 121, 122], .str [48, 49, 50, 51, 52, 53, 54, 55, 56, 57], .int (8), .int (24), .int (6), .int (16)], ["ValueError", "ValueError"], [0, 0], [[], []], []⟩
def b_0 : List L2.MP.S := [S.ret (some (E.and (E.isi (E.var 0) [Ty.int]) (E.not (E.isi (E.var 0) [Ty.bool]))))]
def F_0 : Fn := ⟨1, 1, b_0⟩
def b_1 : List L2.MP.S := [S.ite (E.or (E.not (E.isi (E.var 0) [Ty.str])) (E.cmp (CmpOp.Eq) (E.var 0) (E.cst (D.str [])))) [S.ret (some (E.cst (D.bl false)))] [], S.ite (E.not (E.bi (BI.all) [E.lc [1] (T.nm 1) (I.ex (E.var 0)) none (E.cmp (CmpOp.In) (E.var 1) (E.bin (Operator.Add) (E.glb 1) (E.glb 2))) false] false)) [S.ret (some (E.cst (D.bl false)))] [], S.ret (some (E.or (E.cmp (CmpOp.LtE) (E.bi (BI.len) [E.var 0] false) (E.glb 3)) (E.cmp (CmpOp.In) (E.var 0) (E.glb 0))))]
def F_1 : Fn := ⟨1, 2, b_1⟩
def b_2 : List L2.MP.S := [S.ret (some (E.and (E.isi (E.var 0) [Ty.list]) (E.and (E.chn (CmpOp.LtE) (CmpOp.LtE) (E.cst (D.int 1)) (E.bi (BI.len) [E.var 0] false) (E.glb 4)) (E.bi (BI.all) [E.lc [1] (T.nm 1) (I.ex (E.var 0)) none (E.call 1 [E.var 1] (Md.pure)) false] false))))]
def F_2 : Fn := ⟨1, 2, b_2⟩
def b_3 : List L2.MP.S := [S.ret (some (E.and (E.isi (E.var 0) [Ty.str]) (E.call 2 [E.mt (MT.split) (E.var 0) [E.cst (D.str [32])]] (Md.pure))))]
def F_3 : Fn := ⟨1, 1, b_3⟩
def b_4 : List L2.MP.S := [S.ite (E.not (E.call 3 [E.var 0] (Md.pure))) [S.rais 0 []] [], S.ret (some (E.mt (MT.split) (E.var 0) [E.cst (D.str [32])]))]
def F_4 : Fn := ⟨1, 1, b_4⟩
def b_5 : List L2.MP.S := [S.asg (T.nm 2) (E.and (E.isi (E.var 1) [Ty.tuple]) (E.isi (E.var 0) [Ty.tuple])), S.ite (E.or (E.var 2) (E.and (E.isi (E.var 1) [Ty.list]) (E.isi (E.var 0) [Ty.list]))) [S.ite (E.cmp (CmpOp.NotEq) (E.bi (BI.len) [E.var 0] false) (E.bi (BI.len) [E.var 1] false)) [S.ret (some (E.cst (D.bl false)))] [], S.ret (some (E.bi (BI.all) [E.lc [3, 4] (T.tp [T.nm 3, T.nm 4]) (I.zip (E.var 0) (E.var 1)) none (E.call 5 [E.var 3, E.var 4] (Md.pure)) false] false))] [], S.ite (E.or (E.cmp (CmpOp.Is) (E.var 1) (E.cst (D.non))) (E.cmp (CmpOp.Is) (E.var 0) (E.cst (D.non)))) [S.ret (some (E.and (E.cmp (CmpOp.Is) (E.var 1) (E.cst (D.non))) (E.cmp (CmpOp.Is) (E.var 0) (E.cst (D.non)))))] [], S.ite (E.or (E.call 0 [E.var 1] (Md.pure)) (E.call 0 [E.var 0] (Md.pure))) [S.ret (some (E.and (E.call 0 [E.var 1] (Md.pure)) (E.and (E.call 0 [E.var 0] (Md.pure)) (E.cmp (CmpOp.Eq) (E.var 0) (E.var 1)))))] [], S.ite (E.or (E.isi (E.var 1) [Ty.bool]) (E.isi (E.var 0) [Ty.bool])) [S.ret (some (E.and (E.isi (E.var 1) [Ty.bool]) (E.and (E.isi (E.var 0) [Ty.bool]) (E.cmp (CmpOp.Eq) (E.var 0) (E.var 1)))))] [], S.ret (some (E.and (E.isi (E.var 1) [Ty.str]) (E.and (E.isi (E.var 0) [Ty.str]) (E.cmp (CmpOp.Eq) (E.var 0) (E.var 1)))))]
def F_5 : Fn := ⟨2, 5, b_5⟩
def b_6 : List L2.MP.S := [S.ite (E.or (E.not (E.isi (E.var 0) [Ty.list])) (E.or (E.cmp (CmpOp.Gt) (E.bi (BI.len) [E.var 0] false) (E.glb 5)) (E.not (E.bi (BI.all) [E.lc [2] (T.nm 2) (I.ex (E.var 0)) none (E.call 3 [E.var 2] (Md.pure)) false] false)))) [S.rais 1 []] [], S.ite (E.not (E.bi (BI.all) [E.lc [2] (T.nm 2) (I.ex (E.var 0)) none (E.cmp (CmpOp.LtE) (E.bi (BI.len) [E.call 4 [E.var 2] (Md.pure)] false) (E.var 1)) false] false)) [S.rais 1 []] []]
def F_6 : Fn := ⟨2, 3, b_6⟩
def b_7 : List L2.MP.S := [S.ex (E.call 6 [E.var 0, E.cst (D.int 24)] (Md.pure)), S.ex (E.call 6 [E.var 1, E.glb 6] (Md.pure))]
def F_7 : Fn := ⟨2, 2, b_7⟩
def b_8 : List L2.MP.S := [S.ex (E.call 7 [E.var 0, E.var 1] (Md.pure)), S.asg (T.nm 2) (E.lst [E.lrg (E.cst (D.int 0)) (E.bin (Operator.Add) (E.bi (BI.len) [E.var 1] false) (E.cst (D.int 1))) true] true), S.for_ (T.nm 3) (I.range (E.cst (D.int 1)) (E.bin (Operator.Add) (E.bi (BI.len) [E.var 0] false) (E.cst (D.int 1)))) [S.asg (T.nm 4) (E.lst [E.var 3] true), S.for_ (T.nm 5) (I.range (E.cst (D.int 1)) (E.bin (Operator.Add) (E.bi (BI.len) [E.var 1] false) (E.cst (D.int 1)))) [S.ite (E.cmp (CmpOp.Eq) (E.ix (E.var 0) (E.bin (Operator.Sub) (E.bi (BI.len) [E.var 0] false) (E.var 3))) (E.ix (E.var 1) (E.bin (Operator.Sub) (E.bi (BI.len) [E.var 1] false) (E.var 5)))) [S.ex (E.mt (MT.append) (E.var 4) [E.ix (E.ix (E.var 2) (E.neg (E.cst (D.int 1)))) (E.bin (Operator.Sub) (E.var 5) (E.cst (D.int 1)))])] [S.ex (E.mt (MT.append) (E.var 4) [E.bin (Operator.Add) (E.cst (D.int 1)) (E.bi (BI.min) [E.ix (E.ix (E.var 2) (E.neg (E.cst (D.int 1)))) (E.bin (Operator.Sub) (E.var 5) (E.cst (D.int 1))), E.ix (E.ix (E.var 2) (E.neg (E.cst (D.int 1)))) (E.var 5), E.ix (E.var 4) (E.neg (E.cst (D.int 1)))] false)])]], S.ex (E.mt (MT.append) (E.var 2) [E.var 4])], S.ret (some (E.var 2))]
def F_8 : Fn := ⟨2, 6, b_8⟩
def b_9 : List L2.MP.S := [S.ret (some (E.isf 5 [E.var 2, E.call 8 [E.var 0, E.var 1] (Md.raw)]))]
def F_9 : Fn := ⟨3, 3, b_9⟩
def b_10 : List L2.MP.S := [S.asg (T.nm 2) (E.cst (D.int 0)), S.ite (E.cmp (CmpOp.Lt) (E.var 1) (E.bi (BI.len) [E.var 0] false)) [S.asg (T.nm 2) (E.ix (E.var 0) (E.var 1))] [], S.asg (T.nm 3) (E.bin (Operator.Mod) (E.bin (Operator.Pow) (E.bin (Operator.Add) (E.bin (Operator.Add) (E.bin (Operator.Mod) (E.var 2) (E.cst (D.int 2147483629))) (E.bin (Operator.Mult) (E.bin (Operator.Mult) (E.cst (D.int 7919)) (E.var 1)) (E.var 1))) (E.cst (D.int 31))) (E.cst (D.int 3))) (E.cst (D.int 2147483647))), S.ite (E.cmp (CmpOp.Lt) (E.var 2) (E.bin (Operator.Pow) (E.cst (D.int 10)) (E.cst (D.int 18)))) [S.asg (T.nm 2) (E.cst (D.int 0))] [], S.ret (some (E.lst [E.var 2, E.var 3] true))]
def F_10 : Fn := ⟨2, 4, b_10⟩
def b_11 : List L2.MP.S := [S.ite (E.cmp (CmpOp.Gt) (E.ix (E.var 0) (E.cst (D.int 0))) (E.cst (D.int 0))) [S.asg (T.nm 2) (E.bin (Operator.Mod) (E.ix (E.var 0) (E.cst (D.int 0))) (E.var 1)), S.sto (E.var 0) (E.cst (D.int 0)) (E.bin (Operator.FloorDiv) (E.ix (E.var 0) (E.cst (D.int 0))) (E.var 1)), S.ret (some (E.var 2))] [], S.sto (E.var 0) (E.cst (D.int 1)) (E.bin (Operator.Mod) (E.bin (Operator.Add) (E.bin (Operator.Mult) (E.ix (E.var 0) (E.cst (D.int 1))) (E.cst (D.int 48271))) (E.cst (D.int 11))) (E.cst (D.int 2147483647))), S.ret (some (E.bin (Operator.Mod) (E.bin (Operator.FloorDiv) (E.bin (Operator.Mod) (E.bin (Operator.Mult) (E.ix (E.var 0) (E.cst (D.int 1))) (E.ix (E.var 0) (E.cst (D.int 1)))) (E.cst (D.int 2147483629))) (E.cst (D.int 64))) (E.var 1)))]
def F_11 : Fn := ⟨2, 3, b_11⟩
def b_12 : List L2.MP.S := [S.ret (some (E.ix (E.var 1) (E.call 11 [E.var 0, E.bi (BI.len) [E.var 1] false] (Md.raw))))]
def F_12 : Fn := ⟨2, 2, b_12⟩
def b_13 : List L2.MP.S := [S.asg (T.nm 3) (E.kup [E.bi (BI.len) [E.var 0] false, E.bi (BI.len) [E.var 1] false]), S.ite (E.cmp (CmpOp.NotIn) (E.var 3) (E.var 2)) [S.ite (E.or (E.cmp (CmpOp.Eq) (E.var 0) (E.lst [] false)) (E.cmp (CmpOp.Eq) (E.var 1) (E.lst [] false))) [S.sto (E.var 2) (E.var 3) (E.bin (Operator.Add) (E.bi (BI.len) [E.var 0] false) (E.bi (BI.len) [E.var 1] false))] [S.asg (T.nm 4) (E.bi (BI.int) [E.cmp (CmpOp.NotEq) (E.ix (E.var 0) (E.cst (D.int 0))) (E.ix (E.var 1) (E.cst (D.int 0)))] false), S.asg (T.nm 5) (E.lst [E.bin (Operator.Add) (E.var 4) (E.call 13 [E.sl (E.var 0) (some (E.cst (D.int 1))) none, E.sl (E.var 1) (some (E.cst (D.int 1))) none, E.var 2] (Md.raw)), E.bin (Operator.Add) (E.cst (D.int 1)) (E.call 13 [E.sl (E.var 0) (some (E.cst (D.int 1))) none, E.var 1, E.var 2] (Md.raw))] false), S.sto (E.var 2) (E.var 3) (E.bi (BI.min) [E.bin (Operator.Add) (E.var 5) (E.lst [E.bin (Operator.Add) (E.cst (D.int 1)) (E.call 13 [E.var 0, E.sl (E.var 1) (some (E.cst (D.int 1))) none, E.var 2] (Md.raw))] false)] false)]] [], S.ret (some (E.ix (E.var 2) (E.var 3)))]
def F_13 : Fn := ⟨3, 6, b_13⟩
def b_14 : List L2.MP.S := [S.asg (T.tp [T.nm 2, T.nm 3]) (E.tup [E.dctT, E.lst [] true]), S.for_ (T.nm 4) (I.range (E.cst (D.int 0)) (E.bin (Operator.Add) (E.bi (BI.len) [E.var 0] false) (E.cst (D.int 1)))) [S.asg (T.nm 5) (E.lst [] true), S.for_ (T.nm 6) (I.range (E.cst (D.int 0)) (E.bin (Operator.Add) (E.bi (BI.len) [E.var 1] false) (E.cst (D.int 1)))) [S.ex (E.mt (MT.append) (E.var 5) [E.call 13 [E.sl (E.var 0) (some (E.bin (Operator.Sub) (E.bi (BI.len) [E.var 0] false) (E.var 4))) none, E.sl (E.var 1) (some (E.bin (Operator.Sub) (E.bi (BI.len) [E.var 1] false) (E.var 6))) none, E.var 2] (Md.raw)])], S.ex (E.mt (MT.append) (E.var 3) [E.var 5])], S.ret (some (E.var 3))]
def F_14 : Fn := ⟨2, 7, b_14⟩
def b_15 : List L2.MP.S := [S.asg (T.nm 2) (E.call 11 [E.var 0, E.bi (BI.len) [E.var 1] false] (Md.raw)), S.asg (T.nm 3) (E.call 11 [E.var 0, E.bi (BI.len) [E.ix (E.var 1) (E.var 2)] false] (Md.raw)), S.asg (T.nm 4) (E.ix (E.ix (E.var 1) (E.var 2)) (E.var 3)), S.asg (T.nm 5) (E.call 12 [E.var 0, E.lst [E.bin (Operator.Add) (E.var 4) (E.cst (D.int 1)), E.bin (Operator.Sub) (E.var 4) (E.cst (D.int 1)), E.cst (D.non), E.bi (BI.str) [E.var 4] false, E.ix (E.var 1) (E.var 2)] false] (Md.raw)), S.asg (T.nm 6) (E.bin (Operator.Add) (E.bin (Operator.Add) (E.sl (E.ix (E.var 1) (E.var 2)) none (some (E.var 3))) (E.lst [E.var 5] false)) (E.sl (E.ix (E.var 1) (E.var 2)) (some (E.bin (Operator.Add) (E.var 3) (E.cst (D.int 1)))) none)), S.asg (T.tp [T.nm 7, T.nm 8]) (E.tup [E.sl (E.var 1) none (some (E.var 2)), E.sl (E.var 1) (some (E.bin (Operator.Add) (E.var 2) (E.cst (D.int 1)))) none]), S.asg (T.nm 9) (E.lst [E.bin (Operator.Add) (E.bin (Operator.Add) (E.var 7) (E.lst [E.var 6] false)) (E.var 8), E.bin (Operator.Add) (E.var 7) (E.var 8), E.bin (Operator.Add) (E.var 1) (E.lst [E.ix (E.var 1) (E.cst (D.int 0))] false), E.bi (BI.tuple) [E.var 1] false, E.cst (D.non)] true), S.ex (E.mt (MT.append) (E.var 9) [E.bin (Operator.Add) (E.bin (Operator.Add) (E.var 7) (E.lst [E.bi (BI.tuple) [E.ix (E.var 1) (E.var 2)] false] false)) (E.var 8)]), S.ret (some (E.call 12 [E.var 0, E.bin (Operator.Add) (E.var 9) (E.lst [E.bin (Operator.Add) (E.bin (Operator.Add) (E.var 7) (E.lst [E.bin (Operator.Add) (E.ix (E.var 1) (E.var 2)) (E.lst [E.cst (D.int 0)] false)] false)) (E.var 8)] false)] (Md.raw)))]
def F_15 : Fn := ⟨2, 10, b_15⟩
def b_16 : List L2.MP.S := [S.for_ (T.nm 1) (I.range (E.cst (D.int 0)) (E.bi (BI.max) [E.cst (D.int 1), E.bi (BI.min) [E.bi (BI.len) [E.var 0] false, E.cst (D.int 10)] false] false)) [S.asg (T.nm 2) (E.call 10 [E.var 0, E.var 1] (Md.raw)), S.asg (T.nm 3) (E.sl (E.lst [E.cst (D.str [120]), E.cst (D.str [121]), E.cst (D.str [120, 32, 121]), E.cst (D.str [122]), E.cst (D.str [120])] false) none (some (E.bin (Operator.Add) (E.cst (D.int 2)) (E.call 11 [E.var 2, E.cst (D.int 4)] (Md.raw))))), S.asg (T.nm 4) (E.lc [8] (T.nm 8) (I.range (E.cst (D.int 0)) (E.call 11 [E.var 2, E.cst (D.int 7)] (Md.raw))) none (E.call 12 [E.var 2, E.var 3] (Md.raw)) false), S.asg (T.nm 5) (E.lc [8] (T.nm 8) (I.range (E.cst (D.int 0)) (E.call 11 [E.var 2, E.cst (D.int 7)] (Md.raw))) none (E.call 12 [E.var 2, E.var 3] (Md.raw)) false), S.asg (T.nm 6) (E.call 14 [E.var 4, E.var 5] (Md.pure)), S.asg (T.nm 7) (E.call 8 [E.var 4, E.var 5] (Md.raw)), S.ite (E.or (E.cmp (CmpOp.NotEq) (E.var 7) (E.var 6)) (E.cmp (CmpOp.IsNot) (E.call 9 [E.var 4, E.var 5, E.var 6] (Md.pure)) (E.cst (D.bl true)))) [S.ret (some (E.cst (D.bl false)))] [], S.ex (E.mt (MT.append) (E.ix (E.var 7) (E.cst (D.int 0))) [E.cst (D.non)]), S.ite (E.cmp (CmpOp.NotEq) (E.call 8 [E.var 4, E.var 5] (Md.raw)) (E.var 6)) [S.ret (some (E.cst (D.bl false)))] [], S.ite (E.cmp (CmpOp.NotEq) (E.ix (E.ix (E.call 8 [E.var 5, E.var 4] (Md.raw)) (E.neg (E.cst (D.int 1)))) (E.neg (E.cst (D.int 1)))) (E.ix (E.ix (E.var 6) (E.neg (E.cst (D.int 1)))) (E.neg (E.cst (D.int 1))))) [S.ret (some (E.cst (D.bl false)))] [], S.for_ (T.nm 8) (I.range (E.cst (D.int 0)) (E.cst (D.int 6))) [S.asg (T.nm 9) (E.call 15 [E.var 2, E.var 6] (Md.cut)), S.asg (T.nm 10) (E.bi (BI.repr) [E.var 9] false), S.ite (E.cmp (CmpOp.IsNot) (E.call 9 [E.var 4, E.var 5, E.var 9] (Md.pure)) (E.cst (D.bl false))) [S.ret (some (E.cst (D.bl false)))] [], S.ite (E.cmp (CmpOp.NotEq) (E.bi (BI.repr) [E.var 9] false) (E.var 10)) [S.ret (some (E.cst (D.bl false)))] []]], S.ret (some (E.and (E.cmp (CmpOp.Eq) (E.call 8 [E.lst [] false, E.lst [] false] (Md.raw)) (E.lst [E.lst [E.cst (D.int 0)] false] false)) (E.cmp (CmpOp.Is) (E.call 9 [E.lst [E.cst (D.str [120])] false, E.lst [] false, E.lst [E.lst [E.cst (D.int 0)] false, E.lst [E.cst (D.bl true)] false] false] (Md.pure)) (E.cst (D.bl false)))))]
def F_16 : Fn := ⟨1, 11, b_16⟩
def Fs : List Fn := [F_0, F_1, F_2, F_3, F_4, F_5, F_6, F_7, F_8, F_9, F_10, F_11, F_12, F_13, F_14, F_15, F_16]
theorem c_5 (n : Nat) (x0 x1 : D) (h : Hs) : callN gl Fs (n + 1) 5 [x0, x1] h = finQ (evSs gl (callN gl Fs n) b_5 [some x0, some x1, none, none, none] h) := callN_eq (fn := F_5) rfl rfl
theorem c_6 (n : Nat) (x0 x1 : D) (h : Hs) : callN gl Fs (n + 1) 6 [x0, x1] h = finQ (evSs gl (callN gl Fs n) b_6 [some x0, some x1, none] h) := callN_eq (fn := F_6) rfl rfl
theorem c_7 (n : Nat) (x0 x1 : D) (h : Hs) : callN gl Fs (n + 1) 7 [x0, x1] h = finQ (evSs gl (callN gl Fs n) b_7 [some x0, some x1] h) := callN_eq (fn := F_7) rfl rfl
theorem c_8 (n : Nat) (x0 x1 : D) (h : Hs) : callN gl Fs (n + 1) 8 [x0, x1] h = finQ (evSs gl (callN gl Fs n) b_8 [some x0, some x1, none, none, none, none] h) := callN_eq (fn := F_8) rfl rfl
theorem c_9 (n : Nat) (x0 x1 x2 : D) (h : Hs) : callN gl Fs (n + 1) 9 [x0, x1, x2] h = finQ (evSs gl (callN gl Fs n) b_9 [some x0, some x1, some x2] h) := callN_eq (fn := F_9) rfl rfl
theorem c_13 (n : Nat) (x0 x1 x2 : D) (h : Hs) : callN gl Fs (n + 1) 13 [x0, x1, x2] h = finQ (evSs gl (callN gl Fs n) b_13 [some x0, some x1, some x2, none, none, none] h) := callN_eq (fn := F_13) rfl rfl
theorem c_14 (n : Nat) (x0 x1 : D) (h : Hs) : callN gl Fs (n + 1) 14 [x0, x1] h = finQ (evSs gl (callN gl Fs n) b_14 [some x0, some x1, none, none, none, none, none] h) := callN_eq (fn := F_14) rfl rfl
theorem c_15 (n : Nat) (x0 x1 : D) (h : Hs) : callN gl Fs (n + 1) 15 [x0, x1] h = finQ (evSs gl (callN gl Fs n) b_15 [some x0, some x1, none, none, none, none, none, none, none, none] h) := callN_eq (fn := F_15) rfl rfl
theorem c_16 (n : Nat) (x0 : D) (h : Hs) : callN gl Fs (n + 1) 16 [x0] h = finQ (evSs gl (callN gl Fs n) b_16 [some x0, none, none, none, none, none, none, none, none, none, none] h) := callN_eq (fn := F_16) rfl rfl
theorem exl : gl.exb.length = 2 := rfl
end KX
namespace KX
open PySem PySem.Spec PyProof.Rows L2
def top (i : Nat) : Stmt := PySem.Challenge.pw_amendedwords_k74_edit_tables.main.body.getD i (.Pass ⟨0, 0, 0, 0⟩)
def fn0 : List He.DefD := [⟨("InvalidLine", some "__init__"), "__init__", "InvalidLine.__init__", defArgs (inClass (top 1) 0), defBody (inClass (top 1) 0), defScope (inClass (top 1) 0), [], []⟩,
  ⟨("InvalidLines", some "__init__"), "__init__", "InvalidLines.__init__", defArgs (inClass (top 2) 0), defBody (inClass (top 2) 0), defScope (inClass (top 2) 0), [], []⟩,
  ⟨("is_integer", none), "is_integer", "is_integer", defArgs (top 9), defBody (top 9), defScope (top 9), [], []⟩,
  ⟨("is_word", none), "is_word", "is_word", defArgs (top 10), defBody (top 10), defScope (top 10), [], []⟩,
  ⟨("is_word_list", none), "is_word_list", "is_word_list", defArgs (top 11), defBody (top 11), defScope (top 11), [], []⟩,
  ⟨("is_line", none), "is_line", "is_line", defArgs (top 12), defBody (top 12), defScope (top 12), [], []⟩,
  ⟨("split_line", none), "split_line", "split_line", defArgs (top 13), defBody (top 13), defScope (top 13), [], []⟩,
  ⟨("is_same", none), "is_same", "is_same", defArgs (top 14), defBody (top 14), defScope (top 14), [], []⟩,
  ⟨("validate_lines", none), "validate_lines", "validate_lines", defArgs (top 18), defBody (top 18), defScope (top 18), [], []⟩,
  ⟨("validate_both", none), "validate_both", "validate_both", defArgs (top 19), defBody (top 19), defScope (top 19), [], []⟩,
  ⟨("edit_table", none), "edit_table", "edit_table", defArgs (top 20), defBody (top 20), defScope (top 20), [], []⟩,
  ⟨("is_edit_table", none), "is_edit_table", "is_edit_table", defArgs (top 21), defBody (top 21), defScope (top 21), [], []⟩,
  ⟨("_law_pool", none), "_law_pool", "_law_pool", defArgs (top 23), defBody (top 23), defScope (top 23), [], []⟩,
  ⟨("_law_draw", none), "_law_draw", "_law_draw", defArgs (top 24), defBody (top 24), defScope (top 24), [], []⟩,
  ⟨("_law_choose", none), "_law_choose", "_law_choose", defArgs (top 25), defBody (top 25), defScope (top 25), [], []⟩,
  ⟨("_law_best", none), "_law_best", "_law_best", defArgs (top 26), defBody (top 26), defScope (top 26), [], []⟩,
  ⟨("_law_expected", none), "_law_expected", "_law_expected", defArgs (top 27), defBody (top 27), defScope (top 27), [], []⟩,
  ⟨("_law_altered", none), "_law_altered", "_law_altered", defArgs (top 28), defBody (top 28), defScope (top 28), [], []⟩,
  ⟨("law", none), "law", "law", defArgs (top 29), defBody (top 29), defScope (top 29), [], []⟩]
def fn : List He.DefD := fn0
def fa : List He.Fa := [.glo "is_integer", .glo "is_word", .glo "is_word_list", .glo "is_line", .glo "split_line", .glo "is_same", .glo "validate_lines", .glo "validate_both", .glo "edit_table", .glo "is_edit_table", .glo "_law_pool", .glo "_law_draw", .glo "_law_choose", .glo "_law_best", .glo "_law_expected", .glo "_law_altered", .glo "law"]
def loose0 : List Str := [("InvalidLine" : Str),
  ("InvalidLines" : Str),
  ("KEYWORDS" : Str),
  ("LETTERS" : Str),
  ("DIGITS" : Str),
  ("MAX_LENGTH" : Str),
  ("MAX_WORDS" : Str),
  ("is_integer" : Str),
  ("is_word" : Str),
  ("is_word_list" : Str),
  ("is_line" : Str),
  ("split_line" : Str),
  ("is_same" : Str),
  ("MAX_LINES" : Str),
  ("MAX_WANTED" : Str),
  ("validate_lines" : Str),
  ("validate_both" : Str),
  ("edit_table" : Str),
  ("is_edit_table" : Str),
  ("_law_pool" : Str),
  ("_law_draw" : Str),
  ("_law_choose" : Str),
  ("_law_best" : Str),
  ("_law_expected" : Str),
  ("_law_altered" : Str)]
def loose : List Str := loose0
abbrev R : PySem.W.OpenRow := PySem.W.OpenLaw.row PySem.Challenge.rw_amendedwords_k74_edit_tables
open L2.MP
def cls0 : List Str := ["InvalidLine", "InvalidLines"]
def xk (K : PySem.W.Frag) : Bool := L2.MP.xkA cf.exs gl.exb cls0 gl.fls cf.gls gl.gls cf.gds gl.gds K
def ts : List L2.MP.Tb := L2.MP.tsOf cf.gds gl.gds
abbrev hk : PySem.W.Hook := L2.MP.hookX 5 fa fn xk ts
def ob (s : PySem.W.SharedT) : (Bool × List (Option (List (Option (Str × Int))))) × He.AlD := L2.MP.obsXG 5 fa fn xk ts (HandSHeadRun.getT s)
theorem ob_eq (s : PySem.W.SharedT) : ob s = hk.obs s.abs := L2.MP.obsXG_eq (HandSHeadRun.getT_eq s)
theorem run (w : World) : HandSHeadRun.RunEq R (PySem.W.view R.prog [29]) hk ob 4000 loose w := by
  intro os
  kernel_rfl
def N_0 : List Str := ["value"]
theorem tr_0 : trSs cf 60 N_0 (defScope (top 9)) (defBody (top 9)) = some b_0 := by kernel_rfl
theorem sc_0 : FnScope N_0 ["value"] (defScope (top 9)) := ⟨rfl, rfl, rfl, by decide +kernel, rfl, by decide +kernel, by decide +kernel⟩
theorem nn_0 : ∀ x ∈ N_0, (x == ("__debug__" : Str)) = false ∧ (x == ("__classdict__" : Str)) = false := by decide +kernel
theorem def_0 {K : PySem.W.Frag} {h : Heap} {mg : Str → Option Value} (c : He.SaysD fa fn K) (XK : K.In h) (GK : h.Ns mainGlobals mg) : DefOk cf K mg "is_integer" F_0 := by
  obtain ⟨fd, F1⟩ := c.def_ 2 rfl
  exact ⟨by decide, 60, _, _, _, _, _, fd, N_0, ["value"], He.glo_ok XK GK (c.fact 0 (f := .glo "is_integer") rfl), F1, sc_0, nn_0, tr_0, rfl, rfl, F1.bindsN fun _ _ _ _ _ _ us hl => match us, hl with | [_], _ => rfl⟩
def N_1 : List Str := ["value", "character"]
theorem tr_1 : trSs cf 60 N_1 (defScope (top 10)) (defBody (top 10)) = some b_1 := by kernel_rfl
theorem sc_1 : FnScope N_1 ["value"] (defScope (top 10)) := ⟨rfl, rfl, rfl, by decide +kernel, rfl, by decide +kernel, by decide +kernel⟩
theorem nn_1 : ∀ x ∈ N_1, (x == ("__debug__" : Str)) = false ∧ (x == ("__classdict__" : Str)) = false := by decide +kernel
theorem def_1 {K : PySem.W.Frag} {h : Heap} {mg : Str → Option Value} (c : He.SaysD fa fn K) (XK : K.In h) (GK : h.Ns mainGlobals mg) : DefOk cf K mg "is_word" F_1 := by
  obtain ⟨fd, F1⟩ := c.def_ 3 rfl
  exact ⟨by decide, 60, _, _, _, _, _, fd, N_1, ["value"], He.glo_ok XK GK (c.fact 1 (f := .glo "is_word") rfl), F1, sc_1, nn_1, tr_1, rfl, rfl, F1.bindsN fun _ _ _ _ _ _ us hl => match us, hl with | [_], _ => rfl⟩
def N_2 : List Str := ["value", "word"]
theorem tr_2 : trSs cf 60 N_2 (defScope (top 11)) (defBody (top 11)) = some b_2 := by kernel_rfl
theorem sc_2 : FnScope N_2 ["value"] (defScope (top 11)) := ⟨rfl, rfl, rfl, by decide +kernel, rfl, by decide +kernel, by decide +kernel⟩
theorem nn_2 : ∀ x ∈ N_2, (x == ("__debug__" : Str)) = false ∧ (x == ("__classdict__" : Str)) = false := by decide +kernel
theorem def_2 {K : PySem.W.Frag} {h : Heap} {mg : Str → Option Value} (c : He.SaysD fa fn K) (XK : K.In h) (GK : h.Ns mainGlobals mg) : DefOk cf K mg "is_word_list" F_2 := by
  obtain ⟨fd, F1⟩ := c.def_ 4 rfl
  exact ⟨by decide, 60, _, _, _, _, _, fd, N_2, ["value"], He.glo_ok XK GK (c.fact 2 (f := .glo "is_word_list") rfl), F1, sc_2, nn_2, tr_2, rfl, rfl, F1.bindsN fun _ _ _ _ _ _ us hl => match us, hl with | [_], _ => rfl⟩
def N_3 : List Str := ["value"]
theorem tr_3 : trSs cf 60 N_3 (defScope (top 12)) (defBody (top 12)) = some b_3 := by kernel_rfl
theorem sc_3 : FnScope N_3 ["value"] (defScope (top 12)) := ⟨rfl, rfl, rfl, by decide +kernel, rfl, by decide +kernel, by decide +kernel⟩
theorem nn_3 : ∀ x ∈ N_3, (x == ("__debug__" : Str)) = false ∧ (x == ("__classdict__" : Str)) = false := by decide +kernel
theorem def_3 {K : PySem.W.Frag} {h : Heap} {mg : Str → Option Value} (c : He.SaysD fa fn K) (XK : K.In h) (GK : h.Ns mainGlobals mg) : DefOk cf K mg "is_line" F_3 := by
  obtain ⟨fd, F1⟩ := c.def_ 5 rfl
  exact ⟨by decide, 60, _, _, _, _, _, fd, N_3, ["value"], He.glo_ok XK GK (c.fact 3 (f := .glo "is_line") rfl), F1, sc_3, nn_3, tr_3, rfl, rfl, F1.bindsN fun _ _ _ _ _ _ us hl => match us, hl with | [_], _ => rfl⟩
def N_4 : List Str := ["line"]
theorem tr_4 : trSs cf 60 N_4 (defScope (top 13)) (defBody (top 13)) = some b_4 := by kernel_rfl
theorem sc_4 : FnScope N_4 ["line"] (defScope (top 13)) := ⟨rfl, rfl, rfl, by decide +kernel, rfl, by decide +kernel, by decide +kernel⟩
theorem nn_4 : ∀ x ∈ N_4, (x == ("__debug__" : Str)) = false ∧ (x == ("__classdict__" : Str)) = false := by decide +kernel
theorem def_4 {K : PySem.W.Frag} {h : Heap} {mg : Str → Option Value} (c : He.SaysD fa fn K) (XK : K.In h) (GK : h.Ns mainGlobals mg) : DefOk cf K mg "split_line" F_4 := by
  obtain ⟨fd, F1⟩ := c.def_ 6 rfl
  exact ⟨by decide, 60, _, _, _, _, _, fd, N_4, ["line"], He.glo_ok XK GK (c.fact 4 (f := .glo "split_line") rfl), F1, sc_4, nn_4, tr_4, rfl, rfl, F1.bindsN fun _ _ _ _ _ _ us hl => match us, hl with | [_], _ => rfl⟩
def N_5 : List Str := ["value", "expected", "is_nested", "one", "other"]
theorem tr_5 : trSs cf 60 N_5 (defScope (top 14)) (defBody (top 14)) = some b_5 := by kernel_rfl
theorem sc_5 : FnScope N_5 ["value", "expected"] (defScope (top 14)) := ⟨rfl, rfl, rfl, by decide +kernel, rfl, by decide +kernel, by decide +kernel⟩
theorem nn_5 : ∀ x ∈ N_5, (x == ("__debug__" : Str)) = false ∧ (x == ("__classdict__" : Str)) = false := by decide +kernel
theorem def_5 {K : PySem.W.Frag} {h : Heap} {mg : Str → Option Value} (c : He.SaysD fa fn K) (XK : K.In h) (GK : h.Ns mainGlobals mg) : DefOk cf K mg "is_same" F_5 := by
  obtain ⟨fd, F1⟩ := c.def_ 7 rfl
  exact ⟨by decide, 60, _, _, _, _, _, fd, N_5, ["value", "expected"], He.glo_ok XK GK (c.fact 5 (f := .glo "is_same") rfl), F1, sc_5, nn_5, tr_5, rfl, rfl, F1.bindsN fun _ _ _ _ _ _ us hl => match us, hl with | [_, _], _ => rfl⟩
def N_6 : List Str := ["value", "most", "line"]
theorem tr_6 : trSs cf 60 N_6 (defScope (top 18)) (defBody (top 18)) = some b_6 := by kernel_rfl
theorem sc_6 : FnScope N_6 ["value", "most"] (defScope (top 18)) := ⟨rfl, rfl, rfl, by decide +kernel, rfl, by decide +kernel, by decide +kernel⟩
theorem nn_6 : ∀ x ∈ N_6, (x == ("__debug__" : Str)) = false ∧ (x == ("__classdict__" : Str)) = false := by decide +kernel
theorem def_6 {K : PySem.W.Frag} {h : Heap} {mg : Str → Option Value} (c : He.SaysD fa fn K) (XK : K.In h) (GK : h.Ns mainGlobals mg) : DefOk cf K mg "validate_lines" F_6 := by
  obtain ⟨fd, F1⟩ := c.def_ 8 rfl
  exact ⟨by decide, 60, _, _, _, _, _, fd, N_6, ["value", "most"], He.glo_ok XK GK (c.fact 6 (f := .glo "validate_lines") rfl), F1, sc_6, nn_6, tr_6, rfl, rfl, F1.bindsN fun _ _ _ _ _ _ us hl => match us, hl with | [_, _], _ => rfl⟩
def N_7 : List Str := ["lines", "wanted"]
theorem tr_7 : trSs cf 60 N_7 (defScope (top 19)) (defBody (top 19)) = some b_7 := by kernel_rfl
theorem sc_7 : FnScope N_7 ["lines", "wanted"] (defScope (top 19)) := ⟨rfl, rfl, rfl, by decide +kernel, rfl, by decide +kernel, by decide +kernel⟩
theorem nn_7 : ∀ x ∈ N_7, (x == ("__debug__" : Str)) = false ∧ (x == ("__classdict__" : Str)) = false := by decide +kernel
theorem def_7 {K : PySem.W.Frag} {h : Heap} {mg : Str → Option Value} (c : He.SaysD fa fn K) (XK : K.In h) (GK : h.Ns mainGlobals mg) : DefOk cf K mg "validate_both" F_7 := by
  obtain ⟨fd, F1⟩ := c.def_ 9 rfl
  exact ⟨by decide, 60, _, _, _, _, _, fd, N_7, ["lines", "wanted"], He.glo_ok XK GK (c.fact 7 (f := .glo "validate_both") rfl), F1, sc_7, nn_7, tr_7, rfl, rfl, F1.bindsN fun _ _ _ _ _ _ us hl => match us, hl with | [_, _], _ => rfl⟩
def N_8 : List Str := ["lines", "wanted", "found", "count", "row", "other"]
theorem tr_8 : trSs cf 60 N_8 (defScope (top 20)) (defBody (top 20)) = some b_8 := by kernel_rfl
theorem sc_8 : FnScope N_8 ["lines", "wanted"] (defScope (top 20)) := ⟨rfl, rfl, rfl, by decide +kernel, rfl, by decide +kernel, by decide +kernel⟩
theorem nn_8 : ∀ x ∈ N_8, (x == ("__debug__" : Str)) = false ∧ (x == ("__classdict__" : Str)) = false := by decide +kernel
theorem def_8 {K : PySem.W.Frag} {h : Heap} {mg : Str → Option Value} (c : He.SaysD fa fn K) (XK : K.In h) (GK : h.Ns mainGlobals mg) : DefOk cf K mg "edit_table" F_8 := by
  obtain ⟨fd, F1⟩ := c.def_ 10 rfl
  exact ⟨by decide, 60, _, _, _, _, _, fd, N_8, ["lines", "wanted"], He.glo_ok XK GK (c.fact 8 (f := .glo "edit_table") rfl), F1, sc_8, nn_8, tr_8, rfl, rfl, F1.bindsN fun _ _ _ _ _ _ us hl => match us, hl with | [_, _], _ => rfl⟩
def N_9 : List Str := ["lines", "wanted", "value"]
theorem tr_9 : trSs cf 60 N_9 (defScope (top 21)) (defBody (top 21)) = some b_9 := by kernel_rfl
theorem sc_9 : FnScope N_9 ["lines", "wanted", "value"] (defScope (top 21)) := ⟨rfl, rfl, rfl, by decide +kernel, rfl, by decide +kernel, by decide +kernel⟩
theorem nn_9 : ∀ x ∈ N_9, (x == ("__debug__" : Str)) = false ∧ (x == ("__classdict__" : Str)) = false := by decide +kernel
theorem def_9 {K : PySem.W.Frag} {h : Heap} {mg : Str → Option Value} (c : He.SaysD fa fn K) (XK : K.In h) (GK : h.Ns mainGlobals mg) : DefOk cf K mg "is_edit_table" F_9 := by
  obtain ⟨fd, F1⟩ := c.def_ 11 rfl
  exact ⟨by decide, 60, _, _, _, _, _, fd, N_9, ["lines", "wanted", "value"], He.glo_ok XK GK (c.fact 9 (f := .glo "is_edit_table") rfl), F1, sc_9, nn_9, tr_9, rfl, rfl, F1.bindsN fun _ _ _ _ _ _ us hl => match us, hl with | [_, _, _], _ => rfl⟩
def N_10 : List Str := ["_law_script", "_law_k", "_law_cell", "_law_seed"]
theorem tr_10 : trSs cf 60 N_10 (defScope (top 23)) (defBody (top 23)) = some b_10 := by kernel_rfl
theorem sc_10 : FnScope N_10 ["_law_script", "_law_k"] (defScope (top 23)) := ⟨rfl, rfl, rfl, by decide +kernel, rfl, by decide +kernel, by decide +kernel⟩
theorem nn_10 : ∀ x ∈ N_10, (x == ("__debug__" : Str)) = false ∧ (x == ("__classdict__" : Str)) = false := by decide +kernel
theorem def_10 {K : PySem.W.Frag} {h : Heap} {mg : Str → Option Value} (c : He.SaysD fa fn K) (XK : K.In h) (GK : h.Ns mainGlobals mg) : DefOk cf K mg "_law_pool" F_10 := by
  obtain ⟨fd, F1⟩ := c.def_ 12 rfl
  exact ⟨by decide, 60, _, _, _, _, _, fd, N_10, ["_law_script", "_law_k"], He.glo_ok XK GK (c.fact 10 (f := .glo "_law_pool") rfl), F1, sc_10, nn_10, tr_10, rfl, rfl, F1.bindsN fun _ _ _ _ _ _ us hl => match us, hl with | [_, _], _ => rfl⟩
def N_11 : List Str := ["_law_pool_here", "_law_many", "_law_digit"]
theorem tr_11 : trSs cf 60 N_11 (defScope (top 24)) (defBody (top 24)) = some b_11 := by kernel_rfl
theorem sc_11 : FnScope N_11 ["_law_pool_here", "_law_many"] (defScope (top 24)) := ⟨rfl, rfl, rfl, by decide +kernel, rfl, by decide +kernel, by decide +kernel⟩
theorem nn_11 : ∀ x ∈ N_11, (x == ("__debug__" : Str)) = false ∧ (x == ("__classdict__" : Str)) = false := by decide +kernel
theorem def_11 {K : PySem.W.Frag} {h : Heap} {mg : Str → Option Value} (c : He.SaysD fa fn K) (XK : K.In h) (GK : h.Ns mainGlobals mg) : DefOk cf K mg "_law_draw" F_11 := by
  obtain ⟨fd, F1⟩ := c.def_ 13 rfl
  exact ⟨by decide, 60, _, _, _, _, _, fd, N_11, ["_law_pool_here", "_law_many"], He.glo_ok XK GK (c.fact 11 (f := .glo "_law_draw") rfl), F1, sc_11, nn_11, tr_11, rfl, rfl, F1.bindsN fun _ _ _ _ _ _ us hl => match us, hl with | [_, _], _ => rfl⟩
def N_12 : List Str := ["_law_pool_here", "_law_items"]
theorem tr_12 : trSs cf 60 N_12 (defScope (top 25)) (defBody (top 25)) = some b_12 := by kernel_rfl
theorem sc_12 : FnScope N_12 ["_law_pool_here", "_law_items"] (defScope (top 25)) := ⟨rfl, rfl, rfl, by decide +kernel, rfl, by decide +kernel, by decide +kernel⟩
theorem nn_12 : ∀ x ∈ N_12, (x == ("__debug__" : Str)) = false ∧ (x == ("__classdict__" : Str)) = false := by decide +kernel
theorem def_12 {K : PySem.W.Frag} {h : Heap} {mg : Str → Option Value} (c : He.SaysD fa fn K) (XK : K.In h) (GK : h.Ns mainGlobals mg) : DefOk cf K mg "_law_choose" F_12 := by
  obtain ⟨fd, F1⟩ := c.def_ 14 rfl
  exact ⟨by decide, 60, _, _, _, _, _, fd, N_12, ["_law_pool_here", "_law_items"], He.glo_ok XK GK (c.fact 12 (f := .glo "_law_choose") rfl), F1, sc_12, nn_12, tr_12, rfl, rfl, F1.bindsN fun _ _ _ _ _ _ us hl => match us, hl with | [_, _], _ => rfl⟩
def N_13 : List Str := ["_law_lines", "_law_wanted", "_law_book", "_law_key", "_law_less", "_law_found"]
theorem tr_13 : trSs cf 60 N_13 (defScope (top 26)) (defBody (top 26)) = some b_13 := by kernel_rfl
theorem sc_13 : FnScope N_13 ["_law_lines", "_law_wanted", "_law_book"] (defScope (top 26)) := ⟨rfl, rfl, rfl, by decide +kernel, rfl, by decide +kernel, by decide +kernel⟩
theorem nn_13 : ∀ x ∈ N_13, (x == ("__debug__" : Str)) = false ∧ (x == ("__classdict__" : Str)) = false := by decide +kernel
theorem def_13 {K : PySem.W.Frag} {h : Heap} {mg : Str → Option Value} (c : He.SaysD fa fn K) (XK : K.In h) (GK : h.Ns mainGlobals mg) : DefOk cf K mg "_law_best" F_13 := by
  obtain ⟨fd, F1⟩ := c.def_ 15 rfl
  exact ⟨by decide, 60, _, _, _, _, _, fd, N_13, ["_law_lines", "_law_wanted", "_law_book"], He.glo_ok XK GK (c.fact 13 (f := .glo "_law_best") rfl), F1, sc_13, nn_13, tr_13, rfl, rfl, F1.bindsN fun _ _ _ _ _ _ us hl => match us, hl with | [_, _, _], _ => rfl⟩
def N_14 : List Str := ["_law_lines", "_law_wanted", "_law_book", "_law_found", "_law_many", "_law_row", "_law_other"]
theorem tr_14 : trSs cf 60 N_14 (defScope (top 27)) (defBody (top 27)) = some b_14 := by kernel_rfl
theorem sc_14 : FnScope N_14 ["_law_lines", "_law_wanted"] (defScope (top 27)) := ⟨rfl, rfl, rfl, by decide +kernel, rfl, by decide +kernel, by decide +kernel⟩
theorem nn_14 : ∀ x ∈ N_14, (x == ("__debug__" : Str)) = false ∧ (x == ("__classdict__" : Str)) = false := by decide +kernel
theorem def_14 {K : PySem.W.Frag} {h : Heap} {mg : Str → Option Value} (c : He.SaysD fa fn K) (XK : K.In h) (GK : h.Ns mainGlobals mg) : DefOk cf K mg "_law_expected" F_14 := by
  obtain ⟨fd, F1⟩ := c.def_ 16 rfl
  exact ⟨by decide, 60, _, _, _, _, _, fd, N_14, ["_law_lines", "_law_wanted"], He.glo_ok XK GK (c.fact 14 (f := .glo "_law_expected") rfl), F1, sc_14, nn_14, tr_14, rfl, rfl, F1.bindsN fun _ _ _ _ _ _ us hl => match us, hl with | [_, _], _ => rfl⟩
def N_15 : List Str := ["_law_pool_here", "_law_table", "_law_at", "_law_position", "_law_cell", "_law_invalid", "_law_row", "_law_head", "_law_tail", "_law_items"]
theorem tr_15 : trSs cf 60 N_15 (defScope (top 28)) (defBody (top 28)) = some b_15 := by kernel_rfl
theorem sc_15 : FnScope N_15 ["_law_pool_here", "_law_table"] (defScope (top 28)) := ⟨rfl, rfl, rfl, by decide +kernel, rfl, by decide +kernel, by decide +kernel⟩
theorem nn_15 : ∀ x ∈ N_15, (x == ("__debug__" : Str)) = false ∧ (x == ("__classdict__" : Str)) = false := by decide +kernel
theorem def_15 {K : PySem.W.Frag} {h : Heap} {mg : Str → Option Value} (c : He.SaysD fa fn K) (XK : K.In h) (GK : h.Ns mainGlobals mg) : DefOk cf K mg "_law_altered" F_15 := by
  obtain ⟨fd, F1⟩ := c.def_ 17 rfl
  exact ⟨by decide, 60, _, _, _, _, _, fd, N_15, ["_law_pool_here", "_law_table"], He.glo_ok XK GK (c.fact 15 (f := .glo "_law_altered") rfl), F1, sc_15, nn_15, tr_15, rfl, rfl, F1.bindsN fun _ _ _ _ _ _ us hl => match us, hl with | [_, _], _ => rfl⟩
def N_16 : List Str := ["_law_script", "_law_k", "_law_pool_here", "_law_items", "_law_lines", "_law_wanted", "_law_expected_here", "_law_actual", "_law_turn", "_law_value", "_law_original"]
theorem tr_16 : trSs cf 60 N_16 (defScope (top 29)) (defBody (top 29)) = some b_16 := by kernel_rfl
theorem sc_16 : FnScope N_16 ["_law_script"] (defScope (top 29)) := ⟨rfl, rfl, rfl, by decide +kernel, rfl, by decide +kernel, by decide +kernel⟩
theorem nn_16 : ∀ x ∈ N_16, (x == ("__debug__" : Str)) = false ∧ (x == ("__classdict__" : Str)) = false := by decide +kernel
theorem def_16 {K : PySem.W.Frag} {h : Heap} {mg : Str → Option Value} (c : He.SaysD fa fn K) (XK : K.In h) (GK : h.Ns mainGlobals mg) : DefOk cf K mg "law" F_16 := by
  obtain ⟨fd, F1⟩ := c.def_ 18 rfl
  exact ⟨by decide, 60, _, _, _, _, _, fd, N_16, ["_law_script"], He.glo_ok XK GK (c.fact 16 (f := .glo "law") rfl), F1, sc_16, nn_16, tr_16, rfl, rfl, F1.bindsN fun _ _ _ _ _ _ us hl => match us, hl with | [_], _ => rfl⟩
theorem hall {K : PySem.W.Frag} {h : Heap} {mg : Str → Option Value} (c : He.SaysD fa fn K) (XK : K.In h) (GK : h.Ns mainGlobals mg) : ∀ (f : Nat) (x : Str), cf.fns[f]? = some x → ∃ fn, Fs[f]? = some fn ∧ DefOk cf K mg x fn :=
  defs_get (xs := cf.fns) (fs := Fs) ⟨def_0 c XK GK, def_1 c XK GK, def_2 c XK GK, def_3 c XK GK, def_4 c XK GK, def_5 c XK GK, def_6 c XK GK, def_7 c XK GK, def_8 c XK GK, def_9 c XK GK, def_10 c XK GK, def_11 c XK GK, def_12 c XK GK, def_13 c XK GK, def_14 c XK GK, def_15 c XK GK, def_16 c XK GK, trivial⟩
theorem z_0 {K : PySem.W.Frag} {mg : Str → Option Value} (c : He.SaysD fa fn K) : ZOk K mg "InvalidLine" (flG gl 0) := by
  have e : (flG gl).f 0 = ([] : List Str) := by decide +kernel
  rw [e]
  obtain ⟨fd, F1⟩ := c.def_ 0 rfl
  exact zok0 F1 (by kernel_rfl) (⟨rfl, rfl, rfl, by decide +kernel, rfl, by decide +kernel, by decide +kernel⟩ : FnScope ["self"] ["self"] (defScope (inClass (top 1) 0))) (by kernel_rfl) (by kernel_rfl) (F1.bindsN fun _ _ _ _ _ _ us hl => match us, hl with | [_], _ => rfl)
theorem z_1 {K : PySem.W.Frag} {mg : Str → Option Value} (c : He.SaysD fa fn K) : ZOk K mg "InvalidLines" (flG gl 1) := by
  have e : (flG gl).f 1 = ([] : List Str) := by decide +kernel
  rw [e]
  obtain ⟨fd, F1⟩ := c.def_ 1 rfl
  exact zok0 F1 (by kernel_rfl) (⟨rfl, rfl, rfl, by decide +kernel, rfl, by decide +kernel, by decide +kernel⟩ : FnScope ["self"] ["self"] (defScope (inClass (top 2) 0))) (by kernel_rfl) (by kernel_rfl) (F1.bindsN fun _ _ _ _ _ _ us hl => match us, hl with | [_], _ => rfl)
theorem zall {K : PySem.W.Frag} {mg : Str → Option Value} (sd : He.SaysD fa fn K) (c : Nat) (x : Str) (m : Nat) (h1 : cf.exs[c]? = some x) (h2 : cf.ars[c]? = some (some m)) : ZOk K mg x (flG gl c) := match c, h1, h2 with
  | 0, h1, _ => by
    obtain rfl : ("InvalidLine" : Str) = x := Option.some.inj h1
    exact z_0 sd
  | 1, h1, _ => by
    obtain rfl : ("InvalidLines" : Str) = x := Option.some.inj h1
    exact z_1 sd
  | n + 2, h1, _ => nomatch (show (none : Option Str) = some x from h1)
theorem wf0 {P : Program} {w : World} {K : PySem.W.Frag} {h base : Heap} {mg : Str → Option Value} (XK : K.In h) (GK : h.Ns mainGlobals mg) (c : He.SaysD fa fn K) (hx : xk K = true) (ht : L2.MP.TabsOk ts w K) : WF0 cf gl (ecOf cf.exs K) P w K (flG gl) mg base :=
  wf0_all XK GK hx ht (by decide +kernel) (zall c)
theorem facts {P : Program} {w : World} {K : PySem.W.Frag} {h : Heap} {mg : Str → Option Value} {f : Addr} (XK : K.In h) (GK : h.Ns mainGlobals mg) (hfa : mg ("law" : Str) = some (.ref f)) (c : He.SaysD fa fn K) (hx : xk K = true) (ht : L2.MP.TabsOk ts w K) :
    ∃ fd : FuncData, (∀ (s : Shared) (v : Value), BindsTo s fd ⟨[v], []⟩ [("_law_script", v)]) ∧ ∀ base : Heap, K.In base → base.Ns mainGlobals mg → FnG P w K mg base (L2.CX P w) 63 f fd ["_law_script"] (spOf (ecOf cf.exs K) K (flG gl) 1 (callN gl Fs 60 16)) := by
  obtain ⟨fd, F⟩ := c.def_ 18 rfl
  have e := hfa.symm.trans (He.glo_ok XK GK (c.fact 16 (f := .glo "law") rfl))
  cases e
  have b := FunD.bindsA (ps := ["_law_script"]) F fun _ _ _ _ _ _ us hl => match us, hl with | [_], _ => rfl
  exact ⟨fd, fun s v => b s [v] rfl, fun base _ _ => law_fn (N := 59) (wf0 XK GK c hx ht) rfl (hall c XK GK) F sc_16 nn_16 tr_16 rfl⟩
end KX
namespace KX
open PySem L2.MP
abbrev Wd := List Nat
def sfx (X : List Wd) (i : Nat) : List Wd := X.drop (X.length - i)
theorem sfx_len {X : List Wd} {i : Nat} (h : i ≤ X.length) : (sfx X i).length = i := by
  unfold sfx
  rw [List.length_drop]
  omega
theorem sfx_all {X : List Wd} : sfx X X.length = X := by simp [sfx]
theorem sfx_zero {X : List Wd} : sfx X 0 = [] := by simp [sfx]
theorem sfx_drop {X : List Wd} {i : Nat} (h : i + 1 ≤ X.length) : (sfx X (i + 1)).drop 1 = sfx X i := by
  unfold sfx
  rw [List.drop_drop]
  congr 1
  omega
theorem sfx_cons {X : List Wd} {i : Nat} (h : i < X.length) : ∃ x, sfx X (i + 1) = x :: sfx X i ∧ X[X.length - (i + 1)]? = some x := by
  have hl := sfx_len (X := X) (i := i + 1) (by omega)
  have hd := sfx_drop (X := X) (i := i) (by omega)
  cases e : sfx X (i + 1) with
  | nil => rw [e] at hl; simp at hl
  | cons x t =>
    rw [e] at hd
    refine ⟨x, ?_, ?_⟩
    · rw [← hd]; rfl
    · have : (sfx X (i + 1))[0]? = some x := by rw [e]; rfl
      unfold sfx at this
      rw [List.getElem?_drop] at this
      simpa using this
/-- the fewest edits for the last i and the last j lines -/
def TT (X Y : List Wd) (i j : Nat) : Nat := ed (sfx X i) (sfx Y j)
theorem tt_0 {X Y : List Wd} {i j : Nat} (hi : i ≤ X.length) (hj : j ≤ Y.length) (h : i = 0 ∨ j = 0) : TT X Y i j = i + j := by
  unfold TT
  rcases h with rfl | rfl
  · rw [sfx_zero, ed_nill, sfx_len hj]; omega
  · rw [sfx_zero, ed_nil, sfx_len hi]; rfl
theorem tt_s {X Y : List Wd} {i j : Nat} {x y : Wd} (ex : sfx X (i + 1) = x :: sfx X i) (ey : sfx Y (j + 1) = y :: sfx Y j) :
    TT X Y (i + 1) (j + 1) = min (min ((if x = y then 0 else 1) + TT X Y i j) (1 + TT X Y i (j + 1))) (1 + TT X Y (i + 1) j) := by
  unfold TT
  rw [ex, ey, ed_cc]
theorem tt_le {X Y : List Wd} {i j : Nat} (hi : i ≤ X.length) (hj : j ≤ Y.length) : TT X Y i j ≤ i + j := by
  have := ed_le (sfx X i) (sfx Y j)
  rw [sfx_len hi, sfx_len hj] at this
  exact this
def kQ (p : Nat × Nat) : D := .tup [.int p.1, .int p.2]
theorem kQ_inj {p q : Nat × Nat} (h : kQ p = kQ q) : p = q := by
  unfold kQ at h
  injection h with h
  injection h with h1 h
  injection h with h2
  injection h1 with h1
  injection h2 with h2
  exact Prod.ext (by omega) (by omega)
def bkK (bs : List (Nat × Nat)) : List D := bs.map kQ
def bkV (X Y : List Wd) (bs : List (Nat × Nat)) : List D := bs.map fun p => .int (TT X Y p.1 p.2 : Nat)
def bk (X Y : List Wd) (bs : List (Nat × Nat)) : Nd := .dic true (bkK bs) (bkV X Y bs)
theorem mem_bk {bs : List (Nat × Nat)} {p : Nat × Nat} : (kQ p ∈ bkK bs) = (p ∈ bs) := by
  refine propext ⟨fun h => ?_, fun h => List.mem_map.mpr ⟨p, h, rfl⟩⟩
  obtain ⟨q, hq, e⟩ := List.mem_map.mp h
  rw [← kQ_inj e]
  exact hq
theorem get_bk {X Y : List Wd} {p : Nat × Nat} : ∀ {bs : List (Nat × Nat)}, p ∈ bs → getK (kQ p) (bkK bs) (bkV X Y bs) = some (.int (TT X Y p.1 p.2 : Nat))
  | q :: bs, h => by
    show (if kQ q = kQ p then some (D.int (TT X Y q.1 q.2 : Nat)) else getK (kQ p) (bkK bs) (bkV X Y bs)) = _
    by_cases e : q = p
    · subst e
      rw [if_pos rfl]
    · rw [if_neg fun z => e (kQ_inj z)]
      rcases List.mem_cons.mp h with h | h
      · exact absurd h.symm e
      · exact get_bk h
theorem set_bk {X Y : List Wd} {p : Nat × Nat} : ∀ {bs : List (Nat × Nat)}, setK (kQ p) (.int (TT X Y p.1 p.2 : Nat)) (bkK bs) (bkV X Y bs) = bkV X Y bs
  | [] => rfl
  | q :: bs => by
    show (if kQ q = kQ p then D.int (TT X Y p.1 p.2 : Nat) else D.int (TT X Y q.1 q.2 : Nat)) :: setK (kQ p) (.int (TT X Y p.1 p.2 : Nat)) (bkK bs) (bkV X Y bs) = D.int (TT X Y q.1 q.2 : Nat) :: bkV X Y bs
    rw [set_bk (bs := bs)]
    by_cases e : q = p
    · subst e
      rw [if_pos rfl]
    · rw [if_neg fun z => e (kQ_inj z)]
/-- the keys of a book are few -/
def BOK (bs : List (Nat × Nat)) : Prop := bs.Nodup ∧ ∀ p ∈ bs, p.1 < 100 ∧ p.2 < 100
def addB (bs : List (Nat × Nat)) (p : Nat × Nat) : List (Nat × Nat) := if p ∈ bs then bs else bs ++ [p]
theorem nat_few : ∀ (n : Nat) (l : List Nat), l.Nodup → (∀ x ∈ l, x < n) → l.length ≤ n
  | 0, [], _, _ => Nat.le_refl _
  | 0, x :: l, _, h => absurd (h x (List.mem_cons_self ..)) (by omega)
  | n + 1, l, hd, h => by
    by_cases hn : n ∈ l
    · have h1 := nat_few n (l.erase n) (hd.erase n) fun x hx => by
        have := (hd.mem_erase_iff).mp hx
        have := h x this.2
        omega
      rw [List.length_erase_of_mem hn] at h1
      omega
    · have h1 := nat_few n l hd fun x hx => by
        have := h x hx
        have : x ≠ n := fun e => hn (e ▸ hx)
        omega
      omega
theorem bok_len {bs : List (Nat × Nat)} (h : BOK bs) : bs.length ≤ 10000 := by
  have := nat_few 10000 (bs.map fun p => p.1 * 100 + p.2) ?_ ?_
  · simpa using this
  · unfold List.Nodup
    rw [List.pairwise_map]
    refine List.Pairwise.imp_of_mem ?_ h.1
    intro a b ha hb hab e
    have h1 := h.2 a ha
    have h2 := h.2 b hb
    exact hab (Prod.ext (by omega) (by omega))
  · intro x hx
    obtain ⟨p, hp, rfl⟩ := List.mem_map.mp hx
    have := h.2 p hp
    omega
theorem bok_add {bs : List (Nat × Nat)} (h : BOK bs) {p : Nat × Nat} (h1 : p.1 < 100) (h2 : p.2 < 100) : BOK (addB bs p) := by
  unfold addB
  split
  · exact h
  · rename_i hn
    refine ⟨?_, ?_⟩
    · unfold List.Nodup
      rw [List.pairwise_append]
      refine ⟨h.1, List.pairwise_singleton .., ?_⟩
      intro a ha b hb e
      rw [List.mem_singleton.mp hb] at e
      exact hn (e ▸ ha)
    · intro q hq
      rcases List.mem_append.mp hq with hq | hq
      · exact h.2 q hq
      · rw [List.mem_singleton.mp hq]
        exact ⟨h1, h2⟩
theorem mem_add {bs : List (Nat × Nat)} {p : Nat × Nat} : p ∈ addB bs p := by
  unfold addB
  split
  · assumption
  · exact List.mem_append_right _ (List.mem_singleton.mpr rfl)
theorem put_bk {X Y : List Wd} {bs : List (Nat × Nat)} {p : Nat × Nat} : putKD (kQ p) (.int (TT X Y p.1 p.2 : Nat)) (bkK bs) (bkV X Y bs) = (bkK (addB bs p), bkV X Y (addB bs p)) := by
  unfold putKD addB
  by_cases hm : p ∈ bs
  · rw [if_pos (Eq.mpr mem_bk hm), if_pos hm, set_bk]
  · rw [if_neg fun z => hm (Eq.mp mem_bk z), if_neg hm]
    simp [bkK, bkV]
section
variable {X Y : List Wd} {h : Hs} {b i j : Nat} {bs : List (Nat × Nat)}
theorem bk_in (e : h[b]? = some (bk X Y bs)) : cmpD h .NotIn (.kup [.int i, .int j]) (.ref b) = some (!decide ((i, j) ∈ bs)) := by
  have d : dicT h (.ref b) = some (bkK bs, bkV X Y bs) := by
    show (h[b]?).bind dicH = _
    rw [e]
    rfl
  show (inD h (.kup [.int i, .int j]) (.ref b)).map (!·) = _
  unfold inD
  rw [d]
  show some (!decide (kQ (i, j) ∈ bkK bs)) = _
  rw [decide_eq_decide.mpr (Iff.of_eq (mem_bk (bs := bs) (p := (i, j))))]
theorem bk_ix (e : h[b]? = some (bk X Y bs)) (m : (i, j) ∈ bs) : ixD h (.ref b) (.kup [.int i, .int j]) = some (.int (TT X Y i j : Nat)) := by
  have d : dicT h (.ref b) = some (bkK bs, bkV X Y bs) := by
    show (h[b]?).bind dicH = _
    rw [e]
    rfl
  show (dicT h (.ref b)).bind _ = _
  rw [d]
  exact get_bk m
theorem bk_sto (e : h[b]? = some (bk X Y bs)) (o : BOK bs) : stoD (.ref b) (.kup [.int i, .int j]) (.int (TT X Y i j : Nat)) h = .ok () (h.set b (bk X Y (addB bs (i, j)))) := by
  show (match h[b]? with | some (.dic true ks vs) => if ks.length < lim then R.ok () (h.set b (.dic true (putKD (kQ (i, j)) _ ks vs).1 (putKD (kQ (i, j)) _ ks vs).2)) else .bad | _ => .bad) = _
  rw [e]
  have hl : (bkK bs).length < lim := by
    have := bok_len o
    unfold bkK
    rw [List.length_map]
    unfold lim
    omega
  show (if (bkK bs).length < lim then _ else _) = _
  rw [if_pos hl, put_bk]
  rfl
end
/-- a for over a range from lo -/
theorem forL_rngL {s : Src} {f : D → Sl → Hs → Q} {lo : Int} (I : Nat → Sl → Hs → Prop) {n : Nat} (hc : ∀ k sl h, I k sl h → chk s h = true)
    (st : ∀ k, k < n → ∀ sl h, I k sl h → okQ (f (.int (lo + (k : Nat))) sl h) fun F sl' h' => F = .nx ∧ I (k + 1) sl' h') {sl : Sl} {h : Hs} (i0 : I 0 sl h) : okQ (forL s f (rangeL lo n) sl h) fun F sl' h' => F = .nx ∧ I n sl' h' := by
  have q := forL_pre (s := s) (f := f) (fun pre sl h => I pre.length sl h) (fun _ _ _ i => hc _ _ _ i) (xs := rangeL lo n) (done := []) (sl := sl) (h := h) (fun pre x post sl h he i => ?_) i0
  · simpa [rangeL] using q
  · have hl : pre.length < n := by
      have := congrArg List.length he
      simp [rangeL] at this
      omega
    have hx : x = .int (lo + (pre.length : Nat)) := by
      have := congrArg (fun l => l[pre.length]?) he
      simp [rangeL, List.getElem?_range hl] at this
      rw [← this]
    rw [hx]
    simpa using st pre.length hl sl h i
theorem ev_kup {G : Gl} {C : Nat → List D → Hs → L2.MP.R D} {es : List E} {sl : Sl} {h : Hs} : evE G C (.kup es) sl h = (evEs G C es sl h).bind fun vs h => if vs.all keyOk = true then .ok (.kup vs) h else .bad := by rw [evE]
theorem ev_dctT {G : Gl} {C : Nat → List D → Hs → L2.MP.R D} {sl : Sl} {h : Hs} : evE G C .dctT sl h = .ok (.ref h.length) (h ++ [.dic true [] []]) := by rw [evE]
theorem kq2 {a b : Int} : ([D.int a, D.int b].all keyOk) = true := rfl
/-- the minimum as the law writes it -/
theorem min3 {h : Hs} {nd : Bool} {a b c : Nat} : biD .min nd [.lst [.int a, .int b, .int c]] h = .ok (.int (min (min a b) c : Nat)) h := by
  show R.ok (D.int _) h = _
  congr 2
  simp only [List.foldl]
  split <;> split <;> omega
end KX
namespace KX
open PySem L2.MP
theorem set_same {α : Type} {l : List α} {i : Nat} {a : α} (e : l[i]? = some a) : l.set i a = l := by
  obtain ⟨h, rfl⟩ := List.getElem?_eq_some_iff.mp e
  exact List.set_getElem_self h
section
variable {X Y : List Wd} {b : Nat}
theorem sl_t {h : Hs} {x : Wd} {xs : List Wd} : slD h (.lst (D.str x :: xs.map .str)) (some 1) none = some (.lst (xs.map .str)) := by
  show some (D.lst (cutL (D.str x :: xs.map D.str) (some 1) none)) = _
  congr 2
  exact cut_1n
theorem c_nilL {h : Hs} {xs : List Wd} : cmpD h .Eq (.lst (xs.map .str)) (.lst []) = some (decide (xs.length = 0)) := by
  have p : pl 40 (.lst (xs.map .str)) = true := pl_lst fun z hz => by
    obtain ⟨y, _, rfl⟩ := List.mem_map.mp hz
    rfl
  rw [c_eq p rfl]
  cases xs <;> rfl
/-- _law_best -/
theorem best_ok (hX : X.length ≤ 90) (hY : Y.length ≤ 90) : ∀ (N i j : Nat) (bs : List (Nat × Nat)) (h : Hs), i + j + 1 ≤ N → i ≤ X.length → j ≤ Y.length → h[b]? = some (bk X Y bs) → BOK bs →
    okR (callN gl Fs N 13 [.lst ((sfx X i).map .str), .lst ((sfx Y j).map .str), .ref b] h) fun v h' => v = .int (TT X Y i j : Nat) ∧ ∃ bs', BOK bs' ∧ h' = h.set b (bk X Y bs')
  | 0, i, j, bs, h, hN, _, _, _, _ => absurd hN (by omega)
  | n + 1, i, j, bs, h, hN, hi, hj, e, o => by
    rw [c_13]
    have li : (sfx X i).length = i := sfx_len hi
    have lj : (sfx Y j).length = j := sfx_len hj
    have ei := bk_in (i := i) (j := j) e
    refine okR_fin (okQ_cons ?_)
    simp (config := {implicitDefEqProofs := false}) (disch := first | assumption | exact get_app_self | exact gA20 | exact gA21 | exact gA30 | exact gA31 | exact gA32 | omega | (simp only [evL0]; omega) | (simp only [evP0]; done)) only [evB0, evB1, evB2, evB3, evB4, evB5, evB6, evB7, evEs, evO, evC, evI, asgT, asgTs, lstOf, wipeS, lstV, seqV, if_true, if_false, eq_self, ne_eq, ev_kup, kq2, li, lj, List.isEmpty_nil, List.isEmpty_cons, Nat.reduceBEq, Int.reduceBEq, String.reduceBEq, String.reduceEq, Nat.reduceEqDiff, reduceCtorEq, Int.reduceNeg, Int.reduceLT, Int.reduceLE, Int.reduceEq, Int.reduceAdd, Int.reduceSub, Nat.reduceLT, Nat.reduceLeDiff, Nat.reduceAdd, Nat.reduceSub, Nat.reduceEqDiff]
    refine okQ_cons ?_
    have eni : ∀ H, cmpD H .Eq (.lst ((sfx X i).map .str)) (.lst []) = some (decide (i = 0)) := fun H => by rw [c_nilL, li]
    have enj : ∀ H, cmpD H .Eq (.lst ((sfx Y j).map .str)) (.lst []) = some (decide (j = 0)) := fun H => by rw [c_nilL, lj]
    by_cases hm : (i, j) ∈ bs
    · have ex := bk_ix (i := i) (j := j) e hm
      rw [decide_eq_true hm] at ei
      simp (config := {implicitDefEqProofs := false}) (disch := first | assumption | exact get_app_self | exact gA20 | exact gA21 | exact gA30 | exact gA31 | exact gA32 | omega | (simp only [evL0]; omega) | (simp only [evP0]; done)) only [evB0, evB1, evB2, evB3, evB4, evB5, evB6, evB7, evEs, evO, evC, evI, asgT, asgTs, lstOf, wipeS, lstV, seqV, if_true, if_false, eq_self, ne_eq, ei, List.isEmpty_nil, List.isEmpty_cons, Nat.reduceBEq, Int.reduceBEq, String.reduceBEq, String.reduceEq, Nat.reduceEqDiff, reduceCtorEq, Int.reduceNeg, Int.reduceLT, Int.reduceLE, Int.reduceEq, Int.reduceAdd, Int.reduceSub, Nat.reduceLT, Nat.reduceLeDiff, Nat.reduceAdd, Nat.reduceSub, Nat.reduceEqDiff]
      simp (config := {implicitDefEqProofs := false}) (disch := first | assumption | exact get_app_self | exact gA20 | exact gA21 | exact gA30 | exact gA31 | exact gA32 | omega | (simp only [evL0]; omega) | (simp only [evP0]; done)) only [evB0, evB1, evB2, evB3, evB4, evB5, evB6, evB7, evEs, evO, evC, evI, asgT, asgTs, lstOf, wipeS, lstV, seqV, if_true, if_false, eq_self, ne_eq, evSs, ex, List.isEmpty_nil, List.isEmpty_cons, Nat.reduceBEq, Int.reduceBEq, String.reduceBEq, String.reduceEq, Nat.reduceEqDiff, reduceCtorEq, Int.reduceNeg, Int.reduceLT, Int.reduceLE, Int.reduceEq, Int.reduceAdd, Int.reduceSub, Nat.reduceLT, Nat.reduceLeDiff, Nat.reduceAdd, Nat.reduceSub, Nat.reduceEqDiff]
      refine ⟨bs, o, ?_⟩
      exact (set_same e).symm
    · rw [decide_eq_false hm] at ei
      have hb : b < h.length := (List.getElem?_eq_some_iff.mp e).1
      have cok : i < 100 ∧ j < 100 := ⟨by omega, by omega⟩
      have fin : ∀ bs1 : List (Nat × Nat), BOK bs1 → (∃ t, stoD (.ref b) (.kup [.int i, .int j]) (.int (TT X Y i j : Nat)) (h.set b (bk X Y bs1)) = .ok () t ∧ ixD t (.ref b) (.kup [.int i, .int j]) = some (.int (TT X Y i j : Nat)) ∧ ∃ bs', BOK bs' ∧ t = h.set b (bk X Y bs')) := fun bs1 o1 => by
        have e1 : (h.set b (bk X Y bs1))[b]? = some (bk X Y bs1) := by rw [List.getElem?_set_self hb]
        refine ⟨_, bk_sto e1 o1, ?_, addB bs1 (i, j), bok_add o1 cok.1 cok.2, ?_⟩
        · exact bk_ix (by rw [List.set_set, List.getElem?_set_self hb]) mem_add
        · rw [List.set_set]
      by_cases hz : i = 0 ∨ j = 0
      · obtain ⟨t, f1, f2, f3⟩ := fin bs o
        rw [set_same e] at f1
        have tv := tt_0 (X := X) (Y := Y) hi hj hz
        rw [tv] at f1 f2 ⊢
        by_cases h0 : i = 0
        · rw [decide_eq_true h0] at eni
          have ad : ((i : Int) + (j : Int)) = ((i + j : Nat) : Int) := by omega
          generalize hk : ((i + j : Nat) : Int) = k at *
          simp (config := {implicitDefEqProofs := false}) (disch := first | assumption | exact get_app_self | exact gA20 | exact gA21 | exact gA30 | exact gA31 | exact gA32 | omega | (simp only [evL0]; omega) | (simp only [evP0]; done)) only [evB0, evB1, evB2, evB3, evB4, evB5, evB6, evB7, evEs, evO, evC, evI, asgT, asgTs, lstOf, wipeS, lstV, seqV, if_true, if_false, eq_self, ne_eq, ei, List.isEmpty_nil, List.isEmpty_cons, Nat.reduceBEq, Int.reduceBEq, String.reduceBEq, String.reduceEq, Nat.reduceEqDiff, reduceCtorEq, Int.reduceNeg, Int.reduceLT, Int.reduceLE, Int.reduceEq, Int.reduceAdd, Int.reduceSub, Nat.reduceLT, Nat.reduceLeDiff, Nat.reduceAdd, Nat.reduceSub, Nat.reduceEqDiff]
          refine okQ_cons ?_
          simp (config := {implicitDefEqProofs := false}) (disch := first | assumption | exact get_app_self | exact gA20 | exact gA21 | exact gA30 | exact gA31 | exact gA32 | omega | (simp only [evL0]; omega) | (simp only [evP0]; done)) only [evB0, evB1, evB2, evB3, evB4, evB5, evB6, evB7, evEs, evO, evC, evI, asgT, asgTs, lstOf, wipeS, lstV, seqV, if_true, if_false, eq_self, ne_eq, eni, li, lj, ad, List.isEmpty_nil, List.isEmpty_cons, Nat.reduceBEq, Int.reduceBEq, String.reduceBEq, String.reduceEq, Nat.reduceEqDiff, reduceCtorEq, Int.reduceNeg, Int.reduceLT, Int.reduceLE, Int.reduceEq, Int.reduceAdd, Int.reduceSub, Nat.reduceLT, Nat.reduceLeDiff, Nat.reduceAdd, Nat.reduceSub, Nat.reduceEqDiff]
          simp (config := {implicitDefEqProofs := false}) (disch := first | assumption | exact get_app_self | exact gA20 | exact gA21 | exact gA30 | exact gA31 | exact gA32 | omega | (simp only [evL0]; omega) | (simp only [evP0]; done)) only [evB0, evB1, evB2, evB3, evB4, evB5, evB6, evB7, evEs, evO, evC, evI, asgT, asgTs, lstOf, wipeS, lstV, seqV, if_true, if_false, eq_self, ne_eq, evSs, li, lj, ad, f1, f2, List.isEmpty_nil, List.isEmpty_cons, Nat.reduceBEq, Int.reduceBEq, String.reduceBEq, String.reduceEq, Nat.reduceEqDiff, reduceCtorEq, Int.reduceNeg, Int.reduceLT, Int.reduceLE, Int.reduceEq, Int.reduceAdd, Int.reduceSub, Nat.reduceLT, Nat.reduceLeDiff, Nat.reduceAdd, Nat.reduceSub, Nat.reduceEqDiff]
          obtain ⟨bs', o', rfl⟩ := f3
          exact ⟨bs', o', rfl⟩
        · have h1 : j = 0 := hz.resolve_left h0
          rw [decide_eq_false h0] at eni
          rw [decide_eq_true h1] at enj
          have ad : ((i : Int) + (j : Int)) = ((i + j : Nat) : Int) := by omega
          generalize hk : ((i + j : Nat) : Int) = k at *
          simp (config := {implicitDefEqProofs := false}) (disch := first | assumption | exact get_app_self | exact gA20 | exact gA21 | exact gA30 | exact gA31 | exact gA32 | omega | (simp only [evL0]; omega) | (simp only [evP0]; done)) only [evB0, evB1, evB2, evB3, evB4, evB5, evB6, evB7, evEs, evO, evC, evI, asgT, asgTs, lstOf, wipeS, lstV, seqV, if_true, if_false, eq_self, ne_eq, ei, List.isEmpty_nil, List.isEmpty_cons, Nat.reduceBEq, Int.reduceBEq, String.reduceBEq, String.reduceEq, Nat.reduceEqDiff, reduceCtorEq, Int.reduceNeg, Int.reduceLT, Int.reduceLE, Int.reduceEq, Int.reduceAdd, Int.reduceSub, Nat.reduceLT, Nat.reduceLeDiff, Nat.reduceAdd, Nat.reduceSub, Nat.reduceEqDiff]
          refine okQ_cons ?_
          simp (config := {implicitDefEqProofs := false}) (disch := first | assumption | exact get_app_self | exact gA20 | exact gA21 | exact gA30 | exact gA31 | exact gA32 | omega | (simp only [evL0]; omega) | (simp only [evP0]; done)) only [evB0, evB1, evB2, evB3, evB4, evB5, evB6, evB7, evEs, evO, evC, evI, asgT, asgTs, lstOf, wipeS, lstV, seqV, if_true, if_false, eq_self, ne_eq, eni, enj, li, lj, ad, List.isEmpty_nil, List.isEmpty_cons, Nat.reduceBEq, Int.reduceBEq, String.reduceBEq, String.reduceEq, Nat.reduceEqDiff, reduceCtorEq, Int.reduceNeg, Int.reduceLT, Int.reduceLE, Int.reduceEq, Int.reduceAdd, Int.reduceSub, Nat.reduceLT, Nat.reduceLeDiff, Nat.reduceAdd, Nat.reduceSub, Nat.reduceEqDiff]
          simp (config := {implicitDefEqProofs := false}) (disch := first | assumption | exact get_app_self | exact gA20 | exact gA21 | exact gA30 | exact gA31 | exact gA32 | omega | (simp only [evL0]; omega) | (simp only [evP0]; done)) only [evB0, evB1, evB2, evB3, evB4, evB5, evB6, evB7, evEs, evO, evC, evI, asgT, asgTs, lstOf, wipeS, lstV, seqV, if_true, if_false, eq_self, ne_eq, evSs, li, lj, ad, f1, f2, List.isEmpty_nil, List.isEmpty_cons, Nat.reduceBEq, Int.reduceBEq, String.reduceBEq, String.reduceEq, Nat.reduceEqDiff, reduceCtorEq, Int.reduceNeg, Int.reduceLT, Int.reduceLE, Int.reduceEq, Int.reduceAdd, Int.reduceSub, Nat.reduceLT, Nat.reduceLeDiff, Nat.reduceAdd, Nat.reduceSub, Nat.reduceEqDiff]
          obtain ⟨bs', o', rfl⟩ := f3
          exact ⟨bs', o', rfl⟩
      · obtain ⟨i, rfl⟩ : ∃ k, i = k + 1 := ⟨i - 1, by omega⟩
        obtain ⟨j, rfl⟩ : ∃ k, j = k + 1 := ⟨j - 1, by omega⟩
        obtain ⟨x, ex, _⟩ := sfx_cons (X := X) (i := i) (by omega)
        obtain ⟨y, ey, _⟩ := sfx_cons (X := Y) (i := j) (by omega)
        obtain ⟨_, h1, e1, rfl, bs1, o1, rfl⟩ := okR_inv (best_ok hX hY n i j bs h (by omega) (by omega) (by omega) e o)
        have g1 : (h.set b (bk X Y bs1))[b]? = some (bk X Y bs1) := by rw [List.getElem?_set_self hb]
        obtain ⟨_, h2, e2, rfl, bs2, o2, rfl⟩ := okR_inv (best_ok hX hY n i (j + 1) bs1 _ (by omega) (by omega) (by omega) g1 o1)
        rw [List.set_set] at e2
        have g2 : (h.set b (bk X Y bs2))[b]? = some (bk X Y bs2) := by rw [List.getElem?_set_self hb]
        obtain ⟨_, h3, e3, rfl, bs3, o3, rfl⟩ := okR_inv (best_ok hX hY n (i + 1) j bs2 _ (by omega) (by omega) (by omega) g2 o2)
        rw [List.set_set] at e3
        have tv := tt_s ex ey
        obtain ⟨t, f1, f2, f3⟩ := fin bs3 o3
        rw [tv] at f1 f2 ⊢
        have eni : ∀ H, cmpD H .Eq (.lst ((sfx X (i + 1)).map .str)) (.lst []) = some false := fun H => by rw [eni H]; rfl
        have enj : ∀ H, cmpD H .Eq (.lst ((sfx Y (j + 1)).map .str)) (.lst []) = some false := fun H => by rw [enj H]; rfl
        have s1 : ∀ H, slD H (.lst ((sfx X (i + 1)).map .str)) (some 1) none = some (.lst ((sfx X i).map .str)) := fun H => by rw [ex]; exact sl_t
        have s2 : ∀ H, slD H (.lst ((sfx Y (j + 1)).map .str)) (some 1) none = some (.lst ((sfx Y j).map .str)) := fun H => by rw [ey]; exact sl_t
        have i1 : L2.atI ((sfx X (i + 1)).map D.str) 0 = some (.str x) := by rw [ex]; exact L2.atI_nat (j := 0) rfl
        have i2 : L2.atI ((sfx Y (j + 1)).map D.str) 0 = some (.str y) := by rw [ey]; exact L2.atI_nat (j := 0) rfl
        have kk : D.kup [.int ((i + 1 : Nat) : Int), .int ((j + 1 : Nat) : Int)] = D.kup [.int ((i + 1 : Nat) : Int), .int ((j + 1 : Nat) : Int)] := rfl
        have i3 : ∀ H, biD .int false [.bl (!decide (x = y))] H = .ok (.int (if x = y then (0 : Nat) else 1 : Nat)) H := fun H => by
          by_cases q : x = y
          · rw [if_pos q, decide_eq_true q]; rfl
          · rw [if_neg q, decide_eq_false q]; rfl
        generalize (if x = y then (0 : Nat) else 1) = z at *
        have mn : ∀ H nd, biD .min nd [.lst [.int (z + (TT X Y i j : Nat)), .int (1 + (TT X Y i (j + 1) : Nat)), .int (1 + (TT X Y (i + 1) j : Nat))]] H = .ok (.int (min (min (z + TT X Y i j) (1 + TT X Y i (j + 1))) (1 + TT X Y (i + 1) j) : Nat)) H := fun H nd => by
          have := min3 (h := H) (nd := nd) (a := z + TT X Y i j) (b := 1 + TT X Y i (j + 1)) (c := 1 + TT X Y (i + 1) j)
          rw [← this]
          simp
        generalize min (min (z + TT X Y i j) (1 + TT X Y i (j + 1))) (1 + TT X Y (i + 1) j) = zz at *
        generalize sfx X (i + 1) = X1 at *
        generalize sfx Y (j + 1) = Y1 at *
        generalize ((i + 1 : Nat) : Int) = ii at *
        generalize ((j + 1 : Nat) : Int) = jj at *
        simp (config := {implicitDefEqProofs := false}) (disch := first | assumption | exact get_app_self | exact gA20 | exact gA21 | exact gA30 | exact gA31 | exact gA32 | omega | (simp only [evL0]; omega) | (simp only [evP0]; done)) only [evB0, evB1, evB2, evB3, evB4, evB5, evB6, evB7, evEs, evO, evC, evI, asgT, asgTs, lstOf, wipeS, lstV, seqV, if_true, if_false, eq_self, ne_eq, ei, List.isEmpty_nil, List.isEmpty_cons, Nat.reduceBEq, Int.reduceBEq, String.reduceBEq, String.reduceEq, Nat.reduceEqDiff, reduceCtorEq, Int.reduceNeg, Int.reduceLT, Int.reduceLE, Int.reduceEq, Int.reduceAdd, Int.reduceSub, Nat.reduceLT, Nat.reduceLeDiff, Nat.reduceAdd, Nat.reduceSub, Nat.reduceEqDiff]
        refine okQ_cons ?_
        simp (config := {implicitDefEqProofs := false}) (disch := first | assumption | exact get_app_self | exact gA20 | exact gA21 | exact gA30 | exact gA31 | exact gA32 | omega | (simp only [evL0]; omega) | (simp only [evP0]; done)) only [evB0, evB1, evB2, evB3, evB4, evB5, evB6, evB7, evEs, evO, evC, evI, asgT, asgTs, lstOf, wipeS, lstV, seqV, if_true, if_false, eq_self, ne_eq, eni, enj, List.isEmpty_nil, List.isEmpty_cons, Nat.reduceBEq, Int.reduceBEq, String.reduceBEq, String.reduceEq, Nat.reduceEqDiff, reduceCtorEq, Int.reduceNeg, Int.reduceLT, Int.reduceLE, Int.reduceEq, Int.reduceAdd, Int.reduceSub, Nat.reduceLT, Nat.reduceLeDiff, Nat.reduceAdd, Nat.reduceSub, Nat.reduceEqDiff]
        refine okQ_cons ?_
        simp (config := {implicitDefEqProofs := false}) (disch := first | assumption | exact get_app_self | exact gA20 | exact gA21 | exact gA30 | exact gA31 | exact gA32 | omega | (simp only [evL0]; omega) | (simp only [evP0]; done)) only [evB0, evB1, evB2, evB3, evB4, evB5, evB6, evB7, evEs, evO, evC, evI, asgT, asgTs, lstOf, wipeS, lstV, seqV, if_true, if_false, eq_self, ne_eq, i1, i2, i3, List.isEmpty_nil, List.isEmpty_cons, Nat.reduceBEq, Int.reduceBEq, String.reduceBEq, String.reduceEq, Nat.reduceEqDiff, reduceCtorEq, Int.reduceNeg, Int.reduceLT, Int.reduceLE, Int.reduceEq, Int.reduceAdd, Int.reduceSub, Nat.reduceLT, Nat.reduceLeDiff, Nat.reduceAdd, Nat.reduceSub, Nat.reduceEqDiff]
        refine okQ_cons ?_
        simp (config := {implicitDefEqProofs := false}) (disch := first | assumption | exact get_app_self | exact gA20 | exact gA21 | exact gA30 | exact gA31 | exact gA32 | omega | (simp only [evL0]; omega) | (simp only [evP0]; done)) only [evB0, evB1, evB2, evB3, evB4, evB5, evB6, evB7, evEs, evO, evC, evI, asgT, asgTs, lstOf, wipeS, lstV, seqV, if_true, if_false, eq_self, ne_eq, s1, s2, e1, e2, List.isEmpty_nil, List.isEmpty_cons, Nat.reduceBEq, Int.reduceBEq, String.reduceBEq, String.reduceEq, Nat.reduceEqDiff, reduceCtorEq, Int.reduceNeg, Int.reduceLT, Int.reduceLE, Int.reduceEq, Int.reduceAdd, Int.reduceSub, Nat.reduceLT, Nat.reduceLeDiff, Nat.reduceAdd, Nat.reduceSub, Nat.reduceEqDiff]
        simp (config := {implicitDefEqProofs := false}) (disch := first | assumption | exact get_app_self | exact gA20 | exact gA21 | exact gA30 | exact gA31 | exact gA32 | omega | (simp only [evL0]; omega) | (simp only [evP0]; done)) only [evB0, evB1, evB2, evB3, evB4, evB5, evB6, evB7, evEs, evO, evC, evI, asgT, asgTs, lstOf, wipeS, lstV, seqV, if_true, if_false, eq_self, ne_eq, evSs, s2, e3, mn, f1, f2, List.isEmpty_nil, List.isEmpty_cons, Nat.reduceBEq, Int.reduceBEq, String.reduceBEq, String.reduceEq, Nat.reduceEqDiff, reduceCtorEq, Int.reduceNeg, Int.reduceLT, Int.reduceLE, Int.reduceEq, Int.reduceAdd, Int.reduceSub, Nat.reduceLT, Nat.reduceLeDiff, Nat.reduceAdd, Nat.reduceSub, Nat.reduceEqDiff]
        exact f3
end
end KX
namespace KX
open PySem L2.MP
theorem gL : GL gl Fs 0 1 2 3 4 1 2 := ⟨⟨rfl, rfl, rfl, rfl⟩, rfl, rfl, rfl⟩
def okW (w : Wd) : Prop := isLineS w = true ∧ w.length < 100 ∧ (splitL 32 w).length ≤ 16
section
variable {h : Hs}
theorem line_w {N : Nat} (hN : 3 ≤ N) {w : Wd} (o : okW w) : callN gl Fs N 3 [.str w] h = .ok (.bl true) h := by
  have := line_ok (m := N) hN gL (fln := 3) rfl (d := .str w) rfl (decide_eq_true (by have := o.2.1; omega)) h
  rw [this]
  show R.ok (D.bl (isLineS w)) h = _
  rw [o.1]
theorem split_w {N : Nat} (hN : 4 ≤ N) {w : Wd} (o : okW w) : callN gl Fs N 4 [.str w] h = .ok (.lst ((splitL 32 w).map .str)) h := split_yes hN gL (fln := 3) (c := 0) rfl rfl (by have := o.2.1; omega) o.1 h
theorem val_l {N : Nat} (hN : 5 ≤ N) {X : List Wd} (ho : ∀ w ∈ X, okW w) (hl : X.length ≤ 6) {m : Int} (hm : 16 ≤ m) : callN gl Fs N 6 [.lst (X.map .str), .int m] h = .ok .non h := by
  obtain ⟨n, rfl⟩ : ∃ n, N = n + 1 := ⟨N - 1, by omega⟩
  rw [c_6]
  have m1 : ∀ a b c : Option D, mapR [] (lcQ gl (callN gl Fs n) [2] (.nm 2) none (E.call 3 [E.var 2] (Md.pure)) [a, b, c]) (X.map .str) h = .ok (X.map fun _ => .bl true) h := fun a b c => mapR_mapL .str (fun _ => .bl true) chk_nil fun w hw => by
    have e := line_w (h := h) (N := n) (by omega) (ho w hw)
    simp (config := {implicitDefEqProofs := false}) (disch := first | assumption | exact get_app_self | exact gA20 | exact gA21 | exact gA30 | exact gA31 | exact gA32 | omega | (simp only [evL0]; omega) | (simp only [evP0]; done)) only [evB0, evB1, evB2, evB3, evB4, evB5, evB6, evB7, evEs, evO, evC, evI, asgT, asgTs, lstOf, wipeS, lstV, seqV, if_true, if_false, eq_self, ne_eq, lcQ, e, List.isEmpty_nil, List.isEmpty_cons, Nat.reduceBEq, Int.reduceBEq, String.reduceBEq, String.reduceEq, Nat.reduceEqDiff, reduceCtorEq, Int.reduceNeg, Int.reduceLT, Int.reduceLE, Int.reduceEq, Int.reduceAdd, Int.reduceSub, Nat.reduceLT, Nat.reduceLeDiff, Nat.reduceAdd, Nat.reduceSub, Nat.reduceEqDiff]
  have m2 : ∀ a c : Option D, mapR [] (lcQ gl (callN gl Fs n) [2] (.nm 2) none (E.cmp (CmpOp.LtE) (E.bi (BI.len) [E.call 4 [E.var 2] (Md.pure)] false) (E.var 1)) [a, some (.int m), c]) (X.map .str) h = .ok (X.map fun _ => .bl true) h := fun a c => mapR_mapL .str (fun _ => .bl true) chk_nil fun w hw => by
    have e := split_w (h := h) (N := n) (by omega) (ho w hw)
    have p : endCall .pure h (.ok (.lst ((splitL 32 w).map .str)) h) = .ok (.lst ((splitL 32 w).map .str)) h := end_pure0 (pl_lst fun z hz => by
      obtain ⟨y, _, rfl⟩ := List.mem_map.mp hz
      rfl)
    have d : decide (((splitL 32 w).length : Int) ≤ m) = true := decide_eq_true (by have := (ho w hw).2.2; omega)
    simp (config := {implicitDefEqProofs := false}) (disch := first | assumption | exact get_app_self | exact gA20 | exact gA21 | exact gA30 | exact gA31 | exact gA32 | omega | (simp only [evL0]; omega) | (simp only [evP0]; done)) only [evB0, evB1, evB2, evB3, evB4, evB5, evB6, evB7, evEs, evO, evC, evI, asgT, asgTs, lstOf, wipeS, lstV, seqV, if_true, if_false, eq_self, ne_eq, lcQ, e, p, d, List.isEmpty_nil, List.isEmpty_cons, Nat.reduceBEq, Int.reduceBEq, String.reduceBEq, String.reduceEq, Nat.reduceEqDiff, reduceCtorEq, Int.reduceNeg, Int.reduceLT, Int.reduceLE, Int.reduceEq, Int.reduceAdd, Int.reduceSub, Nat.reduceLT, Nat.reduceLeDiff, Nat.reduceAdd, Nat.reduceSub, Nat.reduceEqDiff]
  have a1 : biD .all false [.lst (X.map fun _ => .bl true)] h = .ok (.bl true) h := by
    rw [bi_all (p := fun _ => true)]
    congr 2
    simp
  have d6 : decide ((X.length : Int) > 6) = false := decide_eq_false (by omega)
  unfold b_6
  have g5 : gl.gls[5]? = some (.int 6) := rfl
  simp (config := {implicitDefEqProofs := false}) (disch := first | assumption | exact get_app_self | exact gA20 | exact gA21 | exact gA30 | exact gA31 | exact gA32 | omega | (simp only [evL0]; omega) | (simp only [evP0]; done)) only [evB0, evB1, evB2, evB3, evB4, evB5, evB6, evB7, evEs, evO, evC, evI, asgT, asgTs, lstOf, wipeS, lstV, seqV, if_true, if_false, eq_self, ne_eq, evSs, g5, m1, m2, a1, d6, List.isEmpty_nil, List.isEmpty_cons, Nat.reduceBEq, Int.reduceBEq, String.reduceBEq, String.reduceEq, Nat.reduceEqDiff, reduceCtorEq, Int.reduceNeg, Int.reduceLT, Int.reduceLE, Int.reduceEq, Int.reduceAdd, Int.reduceSub, Nat.reduceLT, Nat.reduceLeDiff, Nat.reduceAdd, Nat.reduceSub, Nat.reduceEqDiff]
theorem val_b {N : Nat} (hN : 6 ≤ N) {X Y : List Wd} (hx : ∀ w ∈ X, okW w) (lx : X.length ≤ 6) (hy : ∀ w ∈ Y, okW w) (ly : Y.length ≤ 6) : callN gl Fs N 7 [.lst (X.map .str), .lst (Y.map .str)] h = .ok .non h := by
  obtain ⟨n, rfl⟩ : ∃ n, N = n + 1 := ⟨N - 1, by omega⟩
  rw [c_7]
  have e1 := val_l (h := h) (N := n) (by omega) hx lx (m := 24) (by decide)
  have e2 := val_l (h := h) (N := n) (by omega) hy ly (m := 16) (by decide)
  unfold b_7
  have g6 : gl.gls[6]? = some (.int 16) := rfl
  simp (config := {implicitDefEqProofs := false}) (disch := first | assumption | exact get_app_self | exact gA20 | exact gA21 | exact gA30 | exact gA31 | exact gA32 | omega | (simp only [evL0]; omega) | (simp only [evP0]; done)) only [evB0, evB1, evB2, evB3, evB4, evB5, evB6, evB7, evEs, evO, evC, evI, asgT, asgTs, lstOf, wipeS, lstV, seqV, if_true, if_false, eq_self, ne_eq, evSs, g6, e1, e2, List.isEmpty_nil, List.isEmpty_cons, Nat.reduceBEq, Int.reduceBEq, String.reduceBEq, String.reduceEq, Nat.reduceEqDiff, reduceCtorEq, Int.reduceNeg, Int.reduceLT, Int.reduceLE, Int.reduceEq, Int.reduceAdd, Int.reduceSub, Nat.reduceLT, Nat.reduceLeDiff, Nat.reduceAdd, Nat.reduceSub, Nat.reduceEqDiff]
end
def rowD (X Y : List Wd) (i n : Nat) : List D := (List.range n).map fun j => .int (TT X Y i j : Nat)
theorem row_len {X Y : List Wd} {i n : Nat} : (rowD X Y i n).length = n := by simp [rowD]
theorem row_succ {X Y : List Wd} {i n : Nat} : rowD X Y i (n + 1) = rowD X Y i n ++ [.int (TT X Y i n : Nat)] := by simp [rowD, List.range_succ]
theorem row_at {X Y : List Wd} {i n j : Nat} (hj : j < n) : L2.atI (rowD X Y i n) (j : Int) = some (.int (TT X Y i j : Nat)) := by
  refine L2.atI_nat ?_
  unfold rowD
  rw [List.getElem?_map, List.getElem?_range hj]
  rfl
def rowsL (X Y : List Wd) (i n : Nat) : List (List D) := (List.range i).map fun k => rowD X Y k n
theorem rows_succ {X Y : List Wd} {i n : Nat} : rowsL X Y (i + 1) n = rowsL X Y i n ++ [rowD X Y i n] := by simp [rowsL, List.range_succ]
theorem rows_len {X Y : List Wd} {i n : Nat} : (rowsL X Y i n).length = i := by simp [rowsL]
theorem tail_newG {h0 : Hs} {gs : List (List D)} (hg : gs ≠ []) {l : List D} : (h0 ++ tailG h0.length gs ++ [Nd.lst l]).set (h0.length + 1) (.lst (refsG h0.length gs.length ++ [.ref (h0 ++ tailG h0.length gs).length])) = h0 ++ tailG h0.length (gs ++ [l]) := by
  cases gs with
  | nil => exact absurd rfl hg
  | cons g0 r =>
    have e : (h0 ++ tailG h0.length (g0 :: r)).length = adr h0.length (r.length + 1) := by simp [tailG, adr]; omega
    rw [e, List.append_assoc, List.set_append_right _ _ (by omega), show h0.length + 1 - h0.length = 1 by omega]
    congr 1
    have e2 : (r ++ [l]).length + 1 = r.length + 1 + 1 := by simp
    simp only [tailG, List.cons_append, List.set_cons_succ, List.set_cons_zero, List.map_append, List.map_cons, List.map_nil, e2, refs_succ (n := r.length + 1), List.length_cons]
theorem min3i {h : Hs} {nd : Bool} {a b c : Nat} : biD .min nd [.int a, .int b, .int c] h = .ok (.int (min (min a b) c : Nat)) h := by
  show R.ok (D.int _) h = _
  congr 2
  simp only
  split <;> split <;> omega
/-- one cell -/
def cellB : List S := [S.ite (E.cmp (CmpOp.Eq) (E.ix (E.var 0) (E.bin (Operator.Sub) (E.bi (BI.len) [E.var 0] false) (E.var 3))) (E.ix (E.var 1) (E.bin (Operator.Sub) (E.bi (BI.len) [E.var 1] false) (E.var 5)))) [S.ex (E.mt (MT.append) (E.var 4) [E.ix (E.ix (E.var 2) (E.neg (E.cst (D.int 1)))) (E.bin (Operator.Sub) (E.var 5) (E.cst (D.int 1)))])] [S.ex (E.mt (MT.append) (E.var 4) [E.bin (Operator.Add) (E.cst (D.int 1)) (E.bi (BI.min) [E.ix (E.ix (E.var 2) (E.neg (E.cst (D.int 1)))) (E.bin (Operator.Sub) (E.var 5) (E.cst (D.int 1))), E.ix (E.ix (E.var 2) (E.neg (E.cst (D.int 1)))) (E.var 5), E.ix (E.var 4) (E.neg (E.cst (D.int 1)))] false)])]]
theorem cell_ok {C : Nat → List D → Hs → L2.MP.R D} {G0 : Hs} {X Y : List Wd} {fa r i j : Nat} {rs : List D} {a5 : Option D} {A B : D} (hA : A = .lst (X.map .str)) (hB : B = .lst (Y.map .str)) (g1 : G0[fa]? = some (.lst (rs ++ [.ref r]))) (g2 : G0[r]? = some (.lst (rowD X Y i (Y.length + 1)))) (hi : i < X.length) (hj : j < Y.length) (lx : X.length ≤ 900) (ly : Y.length ≤ 900) :
    okQ (forF gl C (.nm 5) cellB (.int (1 + (j : Nat))) [some A, some B, some (.ref fa), some (.int (1 + (i : Nat))), some (.ref G0.length), a5] (G0 ++ [.lst (rowD X Y (i + 1) (j + 1))])) fun F sl h => F = .nx ∧ (∃ b5, sl = [some A, some B, some (.ref fa), some (.int (1 + (i : Nat))), some (.ref G0.length), b5]) ∧ h = G0 ++ [.lst (rowD X Y (i + 1) (j + 1 + 1))] := by
  subst hA hB
  obtain ⟨x, ex, hx⟩ := sfx_cons (X := X) (i := i) hi
  obtain ⟨y, ey, hy⟩ := sfx_cons (X := Y) (i := j) hj
  have lf := (List.getElem?_eq_some_iff.mp g1).1
  have lr := (List.getElem?_eq_some_iff.mp g2).1
  have q1 : ∀ nd : Nd, (G0 ++ [nd])[fa]? = some (.lst (rs ++ [.ref r])) := fun nd => by rw [List.getElem?_append_left lf, g1]
  have q2 : ∀ nd : Nd, (G0 ++ [nd])[r]? = some (.lst (rowD X Y i (Y.length + 1))) := fun nd => by rw [List.getElem?_append_left lr, g2]
  have ax : L2.atI (X.map D.str) ((X.length : Int) - (1 + (i : Int))) = some (.str x) := by
    rw [show (X.length : Int) - (1 + (i : Int)) = ((X.length - (i + 1) : Nat) : Int) by omega]
    refine L2.atI_nat ?_
    rw [List.getElem?_map, hx]; rfl
  have ay : L2.atI (Y.map D.str) ((Y.length : Int) - (1 + (j : Int))) = some (.str y) := by
    rw [show (Y.length : Int) - (1 + (j : Int)) = ((Y.length - (j + 1) : Nat) : Int) by omega]
    refine L2.atI_nat ?_
    rw [List.getElem?_map, hy]; rfl
  have t1 : ∀ nd : Nd, ixD (G0 ++ [nd]) (.ref fa) (.int (-1)) = some (.ref r) := fun nd => by rw [ix_lst (q1 nd), L2.atI_last]
  have t2 : ∀ nd : Nd, ixD (G0 ++ [nd]) (.ref r) (.int (1 + (j : Int) - 1)) = some (.int (TT X Y i j : Nat)) := fun nd => by
    rw [ix_lst (q2 nd), show (1 : Int) + (j : Int) - 1 = ((j : Nat) : Int) by omega, row_at (by omega)]
  have t3 : ∀ nd : Nd, ixD (G0 ++ [nd]) (.ref r) (.int (1 + (j : Int))) = some (.int (TT X Y i (j + 1) : Nat)) := fun nd => by
    rw [ix_lst (q2 nd), show (1 : Int) + (j : Int) = ((j + 1 : Nat) : Int) by omega, row_at (by omega)]
  have t4 : ixD (G0 ++ [Nd.lst (rowD X Y (i + 1) (j + 1))]) (.ref G0.length) (.int (-1)) = some (.int (TT X Y (i + 1) j : Nat)) := by
    rw [ix_lst get_last, row_succ, L2.atI_last]
  have ap : ∀ z : D, mtD .append (.ref G0.length) [z] (G0 ++ [Nd.lst (rowD X Y (i + 1) (j + 1))]) = .ok .non (G0 ++ [.lst (rowD X Y (i + 1) (j + 1) ++ [z])]) := fun z => by
    rw [m_append get_last (by rw [row_len]; unfold lim; omega), set_app_self]
  rw [row_succ (n := j + 1)]
  generalize rowD X Y (i + 1) (j + 1) = row at *
  by_cases e : x = y
  · subst e
    have tv : TT X Y (i + 1) (j + 1) = TT X Y i j := by unfold TT; rw [ex, ey, ed_eq]
    rw [tv]
    simp (config := {implicitDefEqProofs := false}) (disch := first | assumption | exact get_app_self | exact gA20 | exact gA21 | exact gA30 | exact gA31 | exact gA32 | omega | (simp only [evL0]; omega) | (simp only [evP0]; done)) only [evB0, evB1, evB2, evB3, evB4, evB5, evB6, evB7, evEs, evO, evC, evI, asgT, asgTs, lstOf, wipeS, lstV, seqV, if_true, if_false, eq_self, ne_eq, forF, cellB, List.isEmpty_nil, List.isEmpty_cons, Nat.reduceBEq, Int.reduceBEq, String.reduceBEq, String.reduceEq, Nat.reduceEqDiff, reduceCtorEq, Int.reduceNeg, Int.reduceLT, Int.reduceLE, Int.reduceEq, Int.reduceAdd, Int.reduceSub, Nat.reduceLT, Nat.reduceLeDiff, Nat.reduceAdd, Nat.reduceSub, Nat.reduceEqDiff]
    refine okQ_cons ?_
    simp (config := {implicitDefEqProofs := false}) (disch := first | assumption | exact get_app_self | exact gA20 | exact gA21 | exact gA30 | exact gA31 | exact gA32 | omega | (simp only [evL0]; omega) | (simp only [evP0]; done)) only [evB0, evB1, evB2, evB3, evB4, evB5, evB6, evB7, evEs, evO, evC, evI, asgT, asgTs, lstOf, wipeS, lstV, seqV, if_true, if_false, eq_self, ne_eq, ax, ay, List.isEmpty_nil, List.isEmpty_cons, Nat.reduceBEq, Int.reduceBEq, String.reduceBEq, String.reduceEq, Nat.reduceEqDiff, reduceCtorEq, Int.reduceNeg, Int.reduceLT, Int.reduceLE, Int.reduceEq, Int.reduceAdd, Int.reduceSub, Nat.reduceLT, Nat.reduceLeDiff, Nat.reduceAdd, Nat.reduceSub, Nat.reduceEqDiff]
    simp (config := {implicitDefEqProofs := false}) (disch := first | assumption | exact get_app_self | exact gA20 | exact gA21 | exact gA30 | exact gA31 | exact gA32 | omega | (simp only [evL0]; omega) | (simp only [evP0]; done)) only [evB0, evB1, evB2, evB3, evB4, evB5, evB6, evB7, evEs, evO, evC, evI, asgT, asgTs, lstOf, wipeS, lstV, seqV, if_true, if_false, eq_self, ne_eq, evSs, t1, t2, ap, List.isEmpty_nil, List.isEmpty_cons, Nat.reduceBEq, Int.reduceBEq, String.reduceBEq, String.reduceEq, Nat.reduceEqDiff, reduceCtorEq, Int.reduceNeg, Int.reduceLT, Int.reduceLE, Int.reduceEq, Int.reduceAdd, Int.reduceSub, Nat.reduceLT, Nat.reduceLeDiff, Nat.reduceAdd, Nat.reduceSub, Nat.reduceEqDiff]
    exact ⟨_, rfl⟩
  · have tv : TT X Y (i + 1) (j + 1) = 1 + min (min (TT X Y i j) (TT X Y i (j + 1))) (TT X Y (i + 1) j) := by unfold TT; rw [ex, ey, ed_ne e]
    rw [tv]
    have d : decide (x = y) = false := decide_eq_false e
    have mn : ∀ H nd, biD .min nd [.int (TT X Y i j : Nat), .int (TT X Y i (j + 1) : Nat), .int (TT X Y (i + 1) j : Nat)] H = .ok (.int (min (min (TT X Y i j) (TT X Y i (j + 1))) (TT X Y (i + 1) j) : Nat)) H := fun H nd => min3i
    generalize min (min (TT X Y i j) (TT X Y i (j + 1))) (TT X Y (i + 1) j) = m at *
    have e1 : (1 : Int) + (m : Int) = ((1 + m : Nat) : Int) := by omega
    simp (config := {implicitDefEqProofs := false}) (disch := first | assumption | exact get_app_self | exact gA20 | exact gA21 | exact gA30 | exact gA31 | exact gA32 | omega | (simp only [evL0]; omega) | (simp only [evP0]; done)) only [evB0, evB1, evB2, evB3, evB4, evB5, evB6, evB7, evEs, evO, evC, evI, asgT, asgTs, lstOf, wipeS, lstV, seqV, if_true, if_false, eq_self, ne_eq, forF, cellB, List.isEmpty_nil, List.isEmpty_cons, Nat.reduceBEq, Int.reduceBEq, String.reduceBEq, String.reduceEq, Nat.reduceEqDiff, reduceCtorEq, Int.reduceNeg, Int.reduceLT, Int.reduceLE, Int.reduceEq, Int.reduceAdd, Int.reduceSub, Nat.reduceLT, Nat.reduceLeDiff, Nat.reduceAdd, Nat.reduceSub, Nat.reduceEqDiff]
    refine okQ_cons ?_
    simp (config := {implicitDefEqProofs := false}) (disch := first | assumption | exact get_app_self | exact gA20 | exact gA21 | exact gA30 | exact gA31 | exact gA32 | omega | (simp only [evL0]; omega) | (simp only [evP0]; done)) only [evB0, evB1, evB2, evB3, evB4, evB5, evB6, evB7, evEs, evO, evC, evI, asgT, asgTs, lstOf, wipeS, lstV, seqV, if_true, if_false, eq_self, ne_eq, ax, ay, d, List.isEmpty_nil, List.isEmpty_cons, Nat.reduceBEq, Int.reduceBEq, String.reduceBEq, String.reduceEq, Nat.reduceEqDiff, reduceCtorEq, Int.reduceNeg, Int.reduceLT, Int.reduceLE, Int.reduceEq, Int.reduceAdd, Int.reduceSub, Nat.reduceLT, Nat.reduceLeDiff, Nat.reduceAdd, Nat.reduceSub, Nat.reduceEqDiff]
    simp (config := {implicitDefEqProofs := false}) (disch := first | assumption | exact get_app_self | exact gA20 | exact gA21 | exact gA30 | exact gA31 | exact gA32 | omega | (simp only [evL0]; omega) | (simp only [evP0]; done)) only [evB0, evB1, evB2, evB3, evB4, evB5, evB6, evB7, evEs, evO, evC, evI, asgT, asgTs, lstOf, wipeS, lstV, seqV, if_true, if_false, eq_self, ne_eq, evSs, t1, t2, t3, t4, mn, ap, List.isEmpty_nil, List.isEmpty_cons, Nat.reduceBEq, Int.reduceBEq, String.reduceBEq, String.reduceEq, Nat.reduceEqDiff, reduceCtorEq, Int.reduceNeg, Int.reduceLT, Int.reduceLE, Int.reduceEq, Int.reduceAdd, Int.reduceSub, Nat.reduceLT, Nat.reduceLeDiff, Nat.reduceAdd, Nat.reduceSub, Nat.reduceEqDiff]
    exact ⟨_, rfl⟩
def rowB : List S := [S.asg (T.nm 4) (E.lst [E.var 3] true), S.for_ (T.nm 5) (I.range (E.cst (D.int 1)) (E.bin (Operator.Add) (E.bi (BI.len) [E.var 1] false) (E.cst (D.int 1)))) cellB, S.ex (E.mt (MT.append) (E.var 2) [E.var 4])]
def HT0 (h : Hs) (X Y : List Wd) (i : Nat) : Hs := h ++ tailG h.length (rowsL X Y (i + 1) (Y.length + 1))
theorem rows_ne {X Y : List Wd} {i n : Nat} : rowsL X Y (i + 1) n ≠ [] := fun e => by
  have := congrArg List.length e
  rw [rows_len] at this
  cases this
theorem row_step {C : Nat → List D → Hs → L2.MP.R D} {h : Hs} {X Y : List Wd} {i : Nat} {a4 a5 a3 : Option D} {A B : D} (hA : A = .lst (X.map .str)) (hB : B = .lst (Y.map .str)) (hi : i < X.length) (lx : X.length ≤ 900) (ly : Y.length ≤ 900) :
    okQ (forF gl C (.nm 3) rowB (.int (1 + (i : Nat))) [some A, some B, some (.ref (h.length + 1)), a3, a4, a5] (HT0 h X Y i)) fun F sl h' => F = .nx ∧ (∃ b3 b4 b5, sl = [some A, some B, some (.ref (h.length + 1)), b3, b4, b5]) ∧ h' = HT0 h X Y (i + 1) := by
  have t1 : (HT0 h X Y i)[h.length + 1]? = some (.lst (refsG h.length i ++ [.ref (adr h.length i)])) := by
    have := tail_top (h0 := h) (gs := rowsL X Y (i + 1) (Y.length + 1)) rows_ne
    rw [rows_len, refs_succ] at this
    exact this
  have t2 : (HT0 h X Y i)[adr h.length i]? = some (.lst (rowD X Y i (Y.length + 1))) := tail_get (by rw [rows_succ, List.getElem?_append_right (by rw [rows_len]; omega), rows_len]; simp)
  have t3 := tail_newG (h0 := h) (gs := rowsL X Y (i + 1) (Y.length + 1)) rows_ne (l := rowD X Y (i + 1) (Y.length + 1))
  rw [← rows_succ, rows_len] at t3
  have t3 : (HT0 h X Y i ++ [Nd.lst (rowD X Y (i + 1) (Y.length + 1))]).set (h.length + 1) (.lst (refsG h.length (i + 1) ++ [.ref (HT0 h X Y i).length])) = HT0 h X Y (i + 1) := t3
  generalize HT0 h X Y (i + 1) = H1 at *
  generalize HT0 h X Y i = G0 at *
  have lf := (List.getElem?_eq_some_iff.mp t1).1
  have r0 : rowD X Y (i + 1) 1 = [.int (1 + (i : Int))] := by
    show [D.int (TT X Y (i + 1) 0 : Nat)] = _
    rw [tt_0 (by omega) (by omega) (.inr rfl)]
    congr 2
    omega
  have e0 : (((Y.length : Int) + 1) - 1).toNat = Y.length := by omega
  have rl : (rangeL 1 Y.length).length < lim := by rw [length_range]; unfold lim; omega
  have cell := fun (k : Nat) (hk : k < Y.length) (b5 : Option D) => cell_ok (C := C) (a5 := b5) hA hB t1 t2 hi hk lx ly
  have lB : ∀ nd H, biD .len nd [.lst (Y.map .str)] H = .ok (.int Y.length) H := fun nd H => by
    rw [bi_len_lst, List.length_map]
  -- the values are made opaque: else the elaborator runs the goal
  rw [← hB] at lB
  clear hA hB
  unfold forF rowB
  simp (config := {implicitDefEqProofs := false}) (disch := first | assumption | exact get_app_self | exact gA20 | exact gA21 | exact gA30 | exact gA31 | exact gA32 | omega | (simp only [evL0]; omega) | (simp only [evP0]; done)) only [evB0, evB1, evB2, evB3, evB4, evB5, evB6, evB7, evEs, evO, evC, evI, asgT, asgTs, lstOf, wipeS, lstV, seqV, if_true, if_false, eq_self, ne_eq, List.isEmpty_nil, List.isEmpty_cons, Nat.reduceBEq, Int.reduceBEq, String.reduceBEq, String.reduceEq, Nat.reduceEqDiff, reduceCtorEq, Int.reduceNeg, Int.reduceLT, Int.reduceLE, Int.reduceEq, Int.reduceAdd, Int.reduceSub, Nat.reduceLT, Nat.reduceLeDiff, Nat.reduceAdd, Nat.reduceSub, Nat.reduceEqDiff]
  refine okQ_cons ?_
  simp (config := {implicitDefEqProofs := false}) (disch := first | assumption | exact get_app_self | exact gA20 | exact gA21 | exact gA30 | exact gA31 | exact gA32 | omega | (simp only [evL0]; omega) | (simp only [evP0]; done)) only [evB0, evB1, evB2, evB3, evB4, evB5, evB6, evB7, evEs, evO, evC, evI, asgT, asgTs, lstOf, wipeS, lstV, seqV, if_true, if_false, eq_self, ne_eq, List.isEmpty_nil, List.isEmpty_cons, Nat.reduceBEq, Int.reduceBEq, String.reduceBEq, String.reduceEq, Nat.reduceEqDiff, reduceCtorEq, Int.reduceNeg, Int.reduceLT, Int.reduceLE, Int.reduceEq, Int.reduceAdd, Int.reduceSub, Nat.reduceLT, Nat.reduceLeDiff, Nat.reduceAdd, Nat.reduceSub, Nat.reduceEqDiff]
  refine okQ_cons ?_
  simp (config := {implicitDefEqProofs := false}) (disch := first | assumption | exact get_app_self | exact gA20 | exact gA21 | exact gA30 | exact gA31 | exact gA32 | omega | (simp only [evL0]; omega) | (simp only [evP0]; done)) only [evB0, evB1, evB2, evB3, evB4, evB5, evB6, evB7, evEs, evO, evC, evI, asgT, asgTs, lstOf, wipeS, lstV, seqV, if_true, if_false, eq_self, ne_eq, lB, e0, rl, List.isEmpty_nil, List.isEmpty_cons, Nat.reduceBEq, Int.reduceBEq, String.reduceBEq, String.reduceEq, Nat.reduceEqDiff, reduceCtorEq, Int.reduceNeg, Int.reduceLT, Int.reduceLE, Int.reduceEq, Int.reduceAdd, Int.reduceSub, Nat.reduceLT, Nat.reduceLeDiff, Nat.reduceAdd, Nat.reduceSub, Nat.reduceEqDiff]
  refine okQ_mono (forL_rngL (lo := 1) (fun k sl H => (∃ b5, sl = [some A, some B, some (.ref (h.length + 1)), some (.int (1 + (i : Nat))), some (.ref G0.length), b5]) ∧ H = G0 ++ [.lst (rowD X Y (i + 1) (k + 1))]) (fun _ _ _ _ => rfl) ?_ ⟨⟨_, rfl⟩, by rw [r0]⟩) ?_
  · rintro k hk sl H ⟨⟨b5, rfl⟩, rfl⟩
    exact cell k hk b5
  · rintro F sl H ⟨rfl, ⟨b5, rfl⟩, rfl⟩
    rw [nx_nx]
    have q1 : (G0 ++ [Nd.lst (rowD X Y (i + 1) (Y.length + 1))])[h.length + 1]? = some (.lst (refsG h.length i ++ [.ref (adr h.length i)])) := by rw [List.getElem?_append_left lf, t1]
    have ap : mtD .append (.ref (h.length + 1)) [.ref G0.length] (G0 ++ [Nd.lst (rowD X Y (i + 1) (Y.length + 1))]) = .ok .non H1 := by
      rw [m_append q1 (by rw [← refs_succ]; simp only [refsG, List.length_map, List.length_range]; unfold lim; omega), ← refs_succ, t3]
    simp (config := {implicitDefEqProofs := false}) (disch := first | assumption | exact get_app_self | exact gA20 | exact gA21 | exact gA30 | exact gA31 | exact gA32 | omega | (simp only [evL0]; omega) | (simp only [evP0]; done)) only [evB0, evB1, evB2, evB3, evB4, evB5, evB6, evB7, evEs, evO, evC, evI, asgT, asgTs, lstOf, wipeS, lstV, seqV, if_true, if_false, eq_self, ne_eq, evSs, ap, List.isEmpty_nil, List.isEmpty_cons, Nat.reduceBEq, Int.reduceBEq, String.reduceBEq, String.reduceEq, Nat.reduceEqDiff, reduceCtorEq, Int.reduceNeg, Int.reduceLT, Int.reduceLE, Int.reduceEq, Int.reduceAdd, Int.reduceSub, Nat.reduceLT, Nat.reduceLeDiff, Nat.reduceAdd, Nat.reduceSub, Nat.reduceEqDiff]
    exact ⟨_, _, _, rfl, rfl, rfl⟩
/-- edit_table -/
theorem et_raw {N : Nat} (hN : 7 ≤ N) {h : Hs} {X Y : List Wd} (hx : ∀ w ∈ X, okW w) (lx : X.length ≤ 6) (hy : ∀ w ∈ Y, okW w) (ly : Y.length ≤ 6) :
    callN gl Fs N 8 [.lst (X.map .str), .lst (Y.map .str)] h = .ok (.ref (h.length + 1)) (HT0 h X Y X.length) := by
  obtain ⟨n, rfl⟩ : ∃ n, N = n + 1 := ⟨N - 1, by omega⟩
  rw [c_8]
  have vb := val_b (h := h) (N := n) (by omega) hx lx hy ly
  have key : okR (finQ (evSs gl (callN gl Fs n) b_8 [some (.lst (X.map .str)), some (.lst (Y.map .str)), none, none, none, none] h)) fun v h' => v = .ref (h.length + 1) ∧ h' = HT0 h X Y X.length := by
    have b : b_8 = [S.ex (E.call 7 [E.var 0, E.var 1] (Md.pure)), S.asg (T.nm 2) (E.lst [E.lrg (E.cst (D.int 0)) (E.bin (Operator.Add) (E.bi (BI.len) [E.var 1] false) (E.cst (D.int 1))) true] true), S.for_ (T.nm 3) (I.range (E.cst (D.int 1)) (E.bin (Operator.Add) (E.bi (BI.len) [E.var 0] false) (E.cst (D.int 1)))) rowB, S.ret (some (E.var 2))] := rfl
    rw [b]
    have lA : ∀ nd H, biD .len nd [.lst (X.map .str)] H = .ok (.int X.length) H := fun nd H => by
      rw [bi_len_lst, List.length_map]
    have lB : ∀ nd H, biD .len nd [.lst (Y.map .str)] H = .ok (.int Y.length) H := fun nd H => by
      rw [bi_len_lst, List.length_map]
    have h0 : HT0 h X Y 0 = h ++ [.lst (rowD X Y 0 (Y.length + 1)), .lst [.ref h.length]] := rfl
    have r0 : rangeL 0 (Y.length + 1) = rowD X Y 0 (Y.length + 1) := by
      unfold rangeL rowD
      refine List.map_congr_left fun k hk => ?_
      rw [tt_0 (by omega) (by have := List.mem_range.mp hk; omega) (.inl rfl)]
      congr 1
      try omega
    generalize hA : D.lst (X.map D.str) = A at *
    generalize hB : D.lst (Y.map D.str) = B at *
    have row := fun (k : Nat) (hk : k < X.length) (a3 a4 a5 : Option D) => row_step (C := callN gl Fs n) (h := h) (X := X) (Y := Y) (i := k) (a3 := a3) (a4 := a4) (a5 := a5) hA.symm hB.symm hk (by omega) (by omega)
    refine okR_fin (okQ_cons ?_)
    simp (config := {implicitDefEqProofs := false}) (disch := first | assumption | exact get_app_self | exact gA20 | exact gA21 | exact gA30 | exact gA31 | exact gA32 | omega | (simp only [evL0]; omega) | (simp only [evP0]; done)) only [evB0, evB1, evB2, evB3, evB4, evB5, evB6, evB7, evEs, evO, evC, evI, asgT, asgTs, lstOf, wipeS, lstV, seqV, if_true, if_false, eq_self, ne_eq, vb, List.isEmpty_nil, List.isEmpty_cons, Nat.reduceBEq, Int.reduceBEq, String.reduceBEq, String.reduceEq, Nat.reduceEqDiff, reduceCtorEq, Int.reduceNeg, Int.reduceLT, Int.reduceLE, Int.reduceEq, Int.reduceAdd, Int.reduceSub, Nat.reduceLT, Nat.reduceLeDiff, Nat.reduceAdd, Nat.reduceSub, Nat.reduceEqDiff]
    refine okQ_cons ?_
    have e0 : (((Y.length : Int) + 1) - 0).toNat = Y.length + 1 := by omega
    have rl : (rangeL 0 (Y.length + 1)).length ≤ lim := by rw [length_range]; unfold lim; omega
    simp (config := {implicitDefEqProofs := false}) (disch := first | assumption | exact get_app_self | exact gA20 | exact gA21 | exact gA30 | exact gA31 | exact gA32 | omega | (simp only [evL0]; omega) | (simp only [evP0]; done)) only [evB0, evB1, evB2, evB3, evB4, evB5, evB6, evB7, evEs, evO, evC, evI, asgT, asgTs, lstOf, wipeS, lstV, seqV, if_true, if_false, eq_self, ne_eq, lB, e0, rl, List.isEmpty_nil, List.isEmpty_cons, Nat.reduceBEq, Int.reduceBEq, String.reduceBEq, String.reduceEq, Nat.reduceEqDiff, reduceCtorEq, Int.reduceNeg, Int.reduceLT, Int.reduceLE, Int.reduceEq, Int.reduceAdd, Int.reduceSub, Nat.reduceLT, Nat.reduceLeDiff, Nat.reduceAdd, Nat.reduceSub, Nat.reduceEqDiff]
    have hq : h ++ [Nd.lst (rangeL 0 (Y.length + 1))] ++ [Nd.lst [D.ref (List.length h)]] = HT0 h X Y 0 := by
      rw [r0, h0, List.append_assoc]
      rfl
    rw [hq]
    refine okQ_cons ?_
    have e1 : (((X.length : Int) + 1) - 1).toNat = X.length := by omega
    have rl1 : (rangeL 1 X.length).length < lim := by rw [length_range]; unfold lim; omega
    simp (config := {implicitDefEqProofs := false}) (disch := first | assumption | exact get_app_self | exact gA20 | exact gA21 | exact gA30 | exact gA31 | exact gA32 | omega | (simp only [evL0]; omega) | (simp only [evP0]; done)) only [evB0, evB1, evB2, evB3, evB4, evB5, evB6, evB7, evEs, evO, evC, evI, asgT, asgTs, lstOf, wipeS, lstV, seqV, if_true, if_false, eq_self, ne_eq, lA, e1, rl1, List.isEmpty_nil, List.isEmpty_cons, Nat.reduceBEq, Int.reduceBEq, String.reduceBEq, String.reduceEq, Nat.reduceEqDiff, reduceCtorEq, Int.reduceNeg, Int.reduceLT, Int.reduceLE, Int.reduceEq, Int.reduceAdd, Int.reduceSub, Nat.reduceLT, Nat.reduceLeDiff, Nat.reduceAdd, Nat.reduceSub, Nat.reduceEqDiff]
    refine okQ_mono (forL_rngL (lo := 1) (fun k sl H => (∃ b3 b4 b5, sl = [some A, some B, some (.ref (h.length + 1)), b3, b4, b5]) ∧ H = HT0 h X Y k) (fun _ _ _ _ => rfl) ?_ ⟨⟨_, _, _, rfl⟩, rfl⟩) ?_
    · rintro k hk sl H ⟨⟨b3, b4, b5, rfl⟩, rfl⟩
      exact row k hk b3 b4 b5
    · rintro F sl H ⟨rfl, ⟨b3, b4, b5, rfl⟩, rfl⟩
      rw [nx_nx]
      simp (config := {implicitDefEqProofs := false}) (disch := first | assumption | exact get_app_self | exact gA20 | exact gA21 | exact gA30 | exact gA31 | exact gA32 | omega | (simp only [evL0]; omega) | (simp only [evP0]; done)) only [evB0, evB1, evB2, evB3, evB4, evB5, evB6, evB7, evEs, evO, evC, evI, asgT, asgTs, lstOf, wipeS, lstV, seqV, if_true, if_false, eq_self, ne_eq, evSs, List.isEmpty_nil, List.isEmpty_cons, Nat.reduceBEq, Int.reduceBEq, String.reduceBEq, String.reduceEq, Nat.reduceEqDiff, reduceCtorEq, Int.reduceNeg, Int.reduceLT, Int.reduceLE, Int.reduceEq, Int.reduceAdd, Int.reduceSub, Nat.reduceLT, Nat.reduceLeDiff, Nat.reduceAdd, Nat.reduceSub, Nat.reduceEqDiff]
      repeat (first | with_reducible refine okQ_bind ?_ | with_reducible refine okR_q ?_ | with_reducible refine okR_bind ?_ | with_reducible refine okR_nox ?_)
  obtain ⟨v, h', e, rfl, rfl⟩ := okR_inv key
  exact e
end KX
namespace KX
open PySem L2.MP
def refsE (n i : Nat) : List D := (List.range i).map fun k => D.ref (n + 2 + k)
theorem refsE_len {n i : Nat} : (refsE n i).length = i := by simp [refsE]
theorem refsE_succ {n i : Nat} : refsE n (i + 1) = refsE n i ++ [.ref (n + 2 + i)] := by simp [refsE, List.range_succ]
def HE (h : Hs) (X Y : List Wd) (bs : List (Nat × Nat)) (i : Nat) : Hs := h ++ (bk X Y bs :: .lst (refsE h.length i) :: (rowsL X Y i (Y.length + 1)).map Nd.lst)
section
variable {h : Hs} {X Y : List Wd} {bs : List (Nat × Nat)} {i : Nat}
theorem he_len : (HE h X Y bs i).length = h.length + 2 + i := by simp [HE, rows_len]; omega
theorem he_book {t : Hs} : (HE h X Y bs i ++ t)[h.length]? = some (bk X Y bs) := by
  unfold HE
  rw [List.append_assoc, List.getElem?_append_right (Nat.le_refl _), Nat.sub_self]
  rfl
theorem he_set {t : Hs} {bs' : List (Nat × Nat)} : (HE h X Y bs i ++ t).set h.length (bk X Y bs') = HE h X Y bs' i ++ t := by
  unfold HE
  rw [List.append_assoc, List.append_assoc, List.set_append_right _ _ (Nat.le_refl _), Nat.sub_self]
  rfl
theorem he_fnd {t : Hs} : (HE h X Y bs i ++ t)[h.length + 1]? = some (.lst (refsE h.length i)) := by
  unfold HE
  rw [List.append_assoc, List.getElem?_append_right (by omega), show h.length + 1 - h.length = 1 by omega]
  rfl
theorem he_new : (HE h X Y bs i ++ [Nd.lst (rowD X Y i (Y.length + 1))]).set (h.length + 1) (.lst (refsE h.length i ++ [.ref (HE h X Y bs i).length])) = HE h X Y bs (i + 1) := by
  rw [he_len, ← refsE_succ]
  unfold HE
  rw [List.append_assoc, List.set_append_right _ _ (by omega), show h.length + 1 - h.length = 1 by omega, rows_succ, List.map_append]
  rfl
theorem he_row {k : Nat} (hk : k < i) : (HE h X Y bs i)[h.length + 2 + k]? = some (.lst (rowD X Y k (Y.length + 1))) := by
  unfold HE
  rw [List.getElem?_append_right (by omega), show h.length + 2 + k - h.length = k + 1 + 1 by omega]
  simp only [List.getElem?_cons_succ, List.getElem?_map, rowsL, List.getElem?_range hk, Option.map_some]
end
theorem sl_sfx {H : Hs} {X : List Wd} {i : Nat} (hi : i ≤ X.length) : slD H (.lst (X.map .str)) (some ((X.length : Int) - (i : Int))) none = some (.lst ((sfx X i).map .str)) := by
  show some (D.lst (cutL (X.map D.str) (some ((X.length : Int) - (i : Int))) none)) = _
  rw [show (X.length : Int) - (i : Int) = ((X.length - i : Nat) : Int) by omega, cut_n, ← List.map_drop]
  rfl
def expIn : List S := [S.ex (E.mt (MT.append) (E.var 5) [E.call 13 [E.sl (E.var 0) (some (E.bin (Operator.Sub) (E.bi (BI.len) [E.var 0] false) (E.var 4))) none, E.sl (E.var 1) (some (E.bin (Operator.Sub) (E.bi (BI.len) [E.var 1] false) (E.var 6))) none, E.var 2] (Md.raw)])]
def expB : List S := [S.asg (T.nm 5) (E.lst [] true), S.for_ (T.nm 6) (I.range (E.cst (D.int 0)) (E.bin (Operator.Add) (E.bi (BI.len) [E.var 1] false) (E.cst (D.int 1)))) expIn, S.ex (E.mt (MT.append) (E.var 3) [E.var 5])]
theorem ein_ok {N : Nat} {h : Hs} {X Y : List Wd} {i j : Nat} {bs : List (Nat × Nat)} {a6 : Option D} {A B : D} (hN : X.length + Y.length + 1 ≤ N) (hA : A = .lst (X.map .str)) (hB : B = .lst (Y.map .str)) (hi : i ≤ X.length) (hj : j ≤ Y.length) (lx : X.length ≤ 90) (ly : Y.length ≤ 90) (o : BOK bs) :
    okQ (forF gl (callN gl Fs N) (.nm 6) expIn (.int (0 + (j : Nat))) [some A, some B, some (.ref h.length), some (.ref (h.length + 1)), some (.int (0 + (i : Nat))), some (.ref (HE h X Y bs i).length), a6] (HE h X Y bs i ++ [.lst (rowD X Y i j)])) fun F sl H => F = .nx ∧ ∃ bs', BOK bs' ∧ (∃ b6, sl = [some A, some B, some (.ref h.length), some (.ref (h.length + 1)), some (.int (0 + (i : Nat))), some (.ref (HE h X Y bs' i).length), b6]) ∧ H = HE h X Y bs' i ++ [.lst (rowD X Y i (j + 1))] := by
  obtain ⟨_, H1, e1, rfl, bs1, o1, rfl⟩ := okR_inv (best_ok lx ly N i j bs (HE h X Y bs i ++ [.lst (rowD X Y i j)]) (by omega) hi hj he_book o)
  rw [he_set] at e1
  have s1 : ∀ H, slD H A (some ((X.length : Int) - (0 + (i : Int)))) none = some (.lst ((sfx X i).map .str)) := fun H => by rw [hA, Int.zero_add, sl_sfx hi]
  have s2 : ∀ H, slD H B (some ((Y.length : Int) - (0 + (j : Int)))) none = some (.lst ((sfx Y j).map .str)) := fun H => by rw [hB, Int.zero_add, sl_sfx hj]
  have lA : ∀ nd H, biD .len nd [A] H = .ok (.int X.length) H := fun nd H => by rw [hA, bi_len_lst, List.length_map]
  have lB : ∀ nd H, biD .len nd [B] H = .ok (.int Y.length) H := fun nd H => by rw [hB, bi_len_lst, List.length_map]
  have m1 : mtTy (HE h X Y bs i ++ [Nd.lst (rowD X Y i j)]) .append (.ref (HE h X Y bs i).length) = true := n_mtA get_last
  have ll : (HE h X Y bs i).length = (HE h X Y bs1 i).length := by rw [he_len, he_len]
  have ap : ∀ z : D, mtD .append (.ref (HE h X Y bs1 i).length) [z] (HE h X Y bs1 i ++ [Nd.lst (rowD X Y i j)]) = .ok .non (HE h X Y bs1 i ++ [.lst (rowD X Y i j ++ [z])]) := fun z => by
    rw [m_append get_last (by rw [row_len]; unfold lim; omega), set_app_self]
  rw [ll] at m1 ⊢
  clear hA hB
  unfold forF expIn
  simp (config := {implicitDefEqProofs := false}) (disch := first | assumption | exact get_app_self | exact gA20 | exact gA21 | exact gA30 | exact gA31 | exact gA32 | omega | (simp only [evL0]; omega) | (simp only [evP0]; done)) only [evB0, evB1, evB2, evB3, evB4, evB5, evB6, evB7, evEs, evO, evC, evI, asgT, asgTs, lstOf, wipeS, lstV, seqV, if_true, if_false, eq_self, ne_eq, evSs, m1, s1, s2, lA, lB, e1, ap, List.isEmpty_nil, List.isEmpty_cons, Nat.reduceBEq, Int.reduceBEq, String.reduceBEq, String.reduceEq, Nat.reduceEqDiff, reduceCtorEq, Int.reduceNeg, Int.reduceLT, Int.reduceLE, Int.reduceEq, Int.reduceAdd, Int.reduceSub, Nat.reduceLT, Nat.reduceLeDiff, Nat.reduceAdd, Nat.reduceSub, Nat.reduceEqDiff]
  exact ⟨bs1, o1, ⟨_, rfl, rfl⟩, by rw [row_succ]⟩
theorem exp_step {N : Nat} {h : Hs} {X Y : List Wd} {i : Nat} {bs : List (Nat × Nat)} {a4 a5 a6 : Option D} {A B : D} (hN : X.length + Y.length + 1 ≤ N) (hA : A = .lst (X.map .str)) (hB : B = .lst (Y.map .str)) (hi : i ≤ X.length) (lx : X.length ≤ 90) (ly : Y.length ≤ 90) (o : BOK bs) :
    okQ (forF gl (callN gl Fs N) (.nm 4) expB (.int (0 + (i : Nat))) [some A, some B, some (.ref h.length), some (.ref (h.length + 1)), a4, a5, a6] (HE h X Y bs i)) fun F sl H => F = .nx ∧ ∃ bs', BOK bs' ∧ (∃ b4 b5 b6, sl = [some A, some B, some (.ref h.length), some (.ref (h.length + 1)), b4, b5, b6]) ∧ H = HE h X Y bs' (i + 1) := by
  have lB : ∀ nd H, biD .len nd [B] H = .ok (.int Y.length) H := fun nd H => by rw [hB, bi_len_lst, List.length_map]
  have e0 : (((Y.length : Int) + 1) - 0).toNat = Y.length + 1 := by omega
  have rl : (rangeL 0 (Y.length + 1)).length < lim := by rw [length_range]; unfold lim; omega
  have inn := fun (k : Nat) (hk : k ≤ Y.length) (bs : List (Nat × Nat)) (o : BOK bs) (a6 : Option D) => ein_ok (h := h) (a6 := a6) hN hA hB hi hk lx ly o
  clear hA hB
  unfold forF expB
  simp (config := {implicitDefEqProofs := false}) (disch := first | assumption | exact get_app_self | exact gA20 | exact gA21 | exact gA30 | exact gA31 | exact gA32 | omega | (simp only [evL0]; omega) | (simp only [evP0]; done)) only [evB0, evB1, evB2, evB3, evB4, evB5, evB6, evB7, evEs, evO, evC, evI, asgT, asgTs, lstOf, wipeS, lstV, seqV, if_true, if_false, eq_self, ne_eq, List.isEmpty_nil, List.isEmpty_cons, Nat.reduceBEq, Int.reduceBEq, String.reduceBEq, String.reduceEq, Nat.reduceEqDiff, reduceCtorEq, Int.reduceNeg, Int.reduceLT, Int.reduceLE, Int.reduceEq, Int.reduceAdd, Int.reduceSub, Nat.reduceLT, Nat.reduceLeDiff, Nat.reduceAdd, Nat.reduceSub, Nat.reduceEqDiff]
  refine okQ_cons ?_
  simp (config := {implicitDefEqProofs := false}) (disch := first | assumption | exact get_app_self | exact gA20 | exact gA21 | exact gA30 | exact gA31 | exact gA32 | omega | (simp only [evL0]; omega) | (simp only [evP0]; done)) only [evB0, evB1, evB2, evB3, evB4, evB5, evB6, evB7, evEs, evO, evC, evI, asgT, asgTs, lstOf, wipeS, lstV, seqV, if_true, if_false, eq_self, ne_eq, List.isEmpty_nil, List.isEmpty_cons, Nat.reduceBEq, Int.reduceBEq, String.reduceBEq, String.reduceEq, Nat.reduceEqDiff, reduceCtorEq, Int.reduceNeg, Int.reduceLT, Int.reduceLE, Int.reduceEq, Int.reduceAdd, Int.reduceSub, Nat.reduceLT, Nat.reduceLeDiff, Nat.reduceAdd, Nat.reduceSub, Nat.reduceEqDiff]
  refine okQ_cons ?_
  simp (config := {implicitDefEqProofs := false}) (disch := first | assumption | exact get_app_self | exact gA20 | exact gA21 | exact gA30 | exact gA31 | exact gA32 | omega | (simp only [evL0]; omega) | (simp only [evP0]; done)) only [evB0, evB1, evB2, evB3, evB4, evB5, evB6, evB7, evEs, evO, evC, evI, asgT, asgTs, lstOf, wipeS, lstV, seqV, if_true, if_false, eq_self, ne_eq, lB, e0, rl, List.isEmpty_nil, List.isEmpty_cons, Nat.reduceBEq, Int.reduceBEq, String.reduceBEq, String.reduceEq, Nat.reduceEqDiff, reduceCtorEq, Int.reduceNeg, Int.reduceLT, Int.reduceLE, Int.reduceEq, Int.reduceAdd, Int.reduceSub, Nat.reduceLT, Nat.reduceLeDiff, Nat.reduceAdd, Nat.reduceSub, Nat.reduceEqDiff]
  refine okQ_mono (forL_rng (fun k sl H => ∃ bs, BOK bs ∧ (∃ b6, sl = [some A, some B, some (.ref h.length), some (.ref (h.length + 1)), some (.int (0 + (i : Nat))), some (.ref (HE h X Y bs i).length), b6]) ∧ H = HE h X Y bs i ++ [.lst (rowD X Y i k)]) (fun _ _ _ _ => rfl) ?_ ⟨bs, o, ⟨_, rfl⟩, rfl⟩) ?_
  · rintro k hk sl H ⟨bs, o, ⟨b6, rfl⟩, rfl⟩
    exact inn k (by omega) bs o b6
  · rintro F sl H ⟨rfl, bs, o, ⟨b6, rfl⟩, rfl⟩
    rw [nx_nx]
    have ap : mtD .append (.ref (h.length + 1)) [.ref (HE h X Y bs i).length] (HE h X Y bs i ++ [Nd.lst (rowD X Y i (Y.length + 1))]) = .ok .non (HE h X Y bs (i + 1)) := by
      rw [m_append he_fnd (by rw [refsE_len]; unfold lim; omega), he_new]
    have m1 : mtTy (HE h X Y bs i ++ [Nd.lst (rowD X Y i (Y.length + 1))]) .append (.ref (h.length + 1)) = true := n_mtA he_fnd
    simp (config := {implicitDefEqProofs := false}) (disch := first | assumption | exact get_app_self | exact gA20 | exact gA21 | exact gA30 | exact gA31 | exact gA32 | omega | (simp only [evL0]; omega) | (simp only [evP0]; done)) only [evB0, evB1, evB2, evB3, evB4, evB5, evB6, evB7, evEs, evO, evC, evI, asgT, asgTs, lstOf, wipeS, lstV, seqV, if_true, if_false, eq_self, ne_eq, evSs, m1, ap, List.isEmpty_nil, List.isEmpty_cons, Nat.reduceBEq, Int.reduceBEq, String.reduceBEq, String.reduceEq, Nat.reduceEqDiff, reduceCtorEq, Int.reduceNeg, Int.reduceLT, Int.reduceLE, Int.reduceEq, Int.reduceAdd, Int.reduceSub, Nat.reduceLT, Nat.reduceLeDiff, Nat.reduceAdd, Nat.reduceSub, Nat.reduceEqDiff]
    exact ⟨bs, o, ⟨_, _, _, rfl, rfl, rfl⟩, rfl⟩
def tabD (X Y : List Wd) : D := .lst ((rowsL X Y (X.length + 1) (Y.length + 1)).map .lst)
theorem row_pl {X Y : List Wd} {i n m : Nat} : ∀ z ∈ rowD X Y i n, pl (m + 1) z = true := fun z hz => by
  obtain ⟨k, _, rfl⟩ := List.mem_map.mp hz
  rfl
theorem exp_frz {h : Hs} {X Y : List Wd} {bs : List (Nat × Nat)} {n : Nat} : endCall .pure h (.ok (.ref (h.length + 1)) (HE h X Y bs n)) = .ok (.lst ((rowsL X Y n (Y.length + 1)).map .lst)) h := by
  have g1 : (HE h X Y bs n)[h.length + 1]? = some (.lst (refsE h.length n)) := by
    have := he_fnd (h := h) (X := X) (Y := Y) (bs := bs) (i := n) (t := [])
    rw [List.append_nil] at this
    exact this
  have g2 := fun k => he_row (h := h) (X := X) (Y := Y) (bs := bs) (i := n) (k := k)
  have hl := he_len (h := h) (X := X) (Y := Y) (bs := bs) (i := n)
  have tk : (HE h X Y bs n).take h.length = h := by unfold HE; simp
  generalize HE h X Y bs n = H at *
  simp only [endCall]
  rw [if_pos tk]
  have e1 : ∀ k, k < n → frz H h.length H.length 39 (.ref (h.length + 2 + k)) = some (.lst (rowD X Y k (Y.length + 1))) := fun k hk => by
    simp only [frz, if_neg (show ¬ h.length + 2 + k < h.length by omega), if_neg (show h.length + 2 + k ≠ H.length by omega), g2 k hk, Option.bind_some, seqN]
    rw [mapO_id fun x hx => frz_pl (row_pl x hx)]
    rfl
  have e2 : frz H h.length H.length 40 (.ref (h.length + 1)) = some (.lst ((rowsL X Y n (Y.length + 1)).map .lst)) := by
    simp only [frz, if_neg (show ¬ h.length + 1 < h.length by omega), if_neg (show h.length + 1 ≠ H.length by omega), g1, Option.bind_some, seqN]
    have : mapO (frz H h.length H.length 39) (refsE h.length n) = some ((List.range n).map fun k => D.lst (rowD X Y k (Y.length + 1))) := mapO_map_mem fun k hk => e1 k (List.mem_range.mp hk)
    rw [this]
    simp [rowsL, List.map_map, Function.comp_def]
  rw [e2]
  rfl
/-- _law_expected -/
theorem exp_ok {N : Nat} {h : Hs} {X Y : List Wd} (hN : X.length + Y.length + 2 ≤ N) (lx : X.length ≤ 90) (ly : Y.length ≤ 90) :
    ∃ bs, callN gl Fs N 14 [.lst (X.map .str), .lst (Y.map .str)] h = .ok (.ref (h.length + 1)) (HE h X Y bs (X.length + 1)) := by
  obtain ⟨n, rfl⟩ : ∃ n, N = n + 1 := ⟨N - 1, by omega⟩
  rw [c_14]
  have key : okR (finQ (evSs gl (callN gl Fs n) b_14 [some (.lst (X.map .str)), some (.lst (Y.map .str)), none, none, none, none, none] h)) fun v h' => v = .ref (h.length + 1) ∧ ∃ bs, h' = HE h X Y bs (X.length + 1) := by
    have b : b_14 = [S.asg (T.tp [T.nm 2, T.nm 3]) (E.tup [E.dctT, E.lst [] true]), S.for_ (T.nm 4) (I.range (E.cst (D.int 0)) (E.bin (Operator.Add) (E.bi (BI.len) [E.var 0] false) (E.cst (D.int 1)))) expB, S.ret (some (E.var 3))] := rfl
    rw [b]
    have lA : ∀ nd H, biD .len nd [.lst (X.map .str)] H = .ok (.int X.length) H := fun nd H => by
      rw [bi_len_lst, List.length_map]
    have h0 : HE h X Y [] 0 = h ++ [.dic true [] []] ++ [.lst []] := by
      rw [List.append_assoc]
      rfl
    generalize hA : D.lst (X.map D.str) = A at *
    generalize hB : D.lst (Y.map D.str) = B at *
    have stp := fun (k : Nat) (hk : k < X.length + 1) (bs : List (Nat × Nat)) (o : BOK bs) (a4 a5 a6 : Option D) => exp_step (N := n) (h := h) (X := X) (Y := Y) (i := k) (a4 := a4) (a5 := a5) (a6 := a6) (by omega) hA.symm hB.symm (by omega) lx ly o
    have e0 : (((X.length : Int) + 1) - 0).toNat = X.length + 1 := by omega
    have rl : (rangeL 0 (X.length + 1)).length < lim := by rw [length_range]; unfold lim; omega
    refine okR_fin (okQ_cons ?_)
    have l1 : (h ++ [Nd.dic true [] []]).length = h.length + 1 := by simp
    simp (config := {implicitDefEqProofs := false}) (disch := first | assumption | exact get_app_self | exact gA20 | exact gA21 | exact gA30 | exact gA31 | exact gA32 | omega | (simp only [evL0]; omega) | (simp only [evP0]; done)) only [evB0, evB1, evB2, evB3, evB4, evB5, evB6, evB7, evEs, evO, evC, evI, asgT, asgTs, lstOf, wipeS, lstV, seqV, if_true, if_false, eq_self, ne_eq, ev_dctT, asgT, asgTs, l1, List.isEmpty_nil, List.isEmpty_cons, Nat.reduceBEq, Int.reduceBEq, String.reduceBEq, String.reduceEq, Nat.reduceEqDiff, reduceCtorEq, Int.reduceNeg, Int.reduceLT, Int.reduceLE, Int.reduceEq, Int.reduceAdd, Int.reduceSub, Nat.reduceLT, Nat.reduceLeDiff, Nat.reduceAdd, Nat.reduceSub, Nat.reduceEqDiff]
    rw [← h0]
    refine okQ_cons ?_
    simp (config := {implicitDefEqProofs := false}) (disch := first | assumption | exact get_app_self | exact gA20 | exact gA21 | exact gA30 | exact gA31 | exact gA32 | omega | (simp only [evL0]; omega) | (simp only [evP0]; done)) only [evB0, evB1, evB2, evB3, evB4, evB5, evB6, evB7, evEs, evO, evC, evI, asgT, asgTs, lstOf, wipeS, lstV, seqV, if_true, if_false, eq_self, ne_eq, lA, e0, rl, List.isEmpty_nil, List.isEmpty_cons, Nat.reduceBEq, Int.reduceBEq, String.reduceBEq, String.reduceEq, Nat.reduceEqDiff, reduceCtorEq, Int.reduceNeg, Int.reduceLT, Int.reduceLE, Int.reduceEq, Int.reduceAdd, Int.reduceSub, Nat.reduceLT, Nat.reduceLeDiff, Nat.reduceAdd, Nat.reduceSub, Nat.reduceEqDiff]
    refine okQ_mono (forL_rng (fun k sl H => ∃ bs, BOK bs ∧ (∃ b4 b5 b6, sl = [some A, some B, some (.ref h.length), some (.ref (h.length + 1)), b4, b5, b6]) ∧ H = HE h X Y bs k) (fun _ _ _ _ => rfl) ?_ ⟨[], ⟨List.nodup_nil, fun p hp => by cases hp⟩, ⟨_, _, _, rfl⟩, rfl⟩) ?_
    · rintro k hk sl H ⟨bs, o, ⟨b4, b5, b6, rfl⟩, rfl⟩
      exact stp k hk bs o b4 b5 b6
    · rintro F sl H ⟨rfl, bs, o, ⟨b4, b5, b6, rfl⟩, rfl⟩
      rw [nx_nx]
      simp (config := {implicitDefEqProofs := false}) (disch := first | assumption | exact get_app_self | exact gA20 | exact gA21 | exact gA30 | exact gA31 | exact gA32 | omega | (simp only [evL0]; omega) | (simp only [evP0]; done)) only [evB0, evB1, evB2, evB3, evB4, evB5, evB6, evB7, evEs, evO, evC, evI, asgT, asgTs, lstOf, wipeS, lstV, seqV, if_true, if_false, eq_self, ne_eq, evSs, List.isEmpty_nil, List.isEmpty_cons, Nat.reduceBEq, Int.reduceBEq, String.reduceBEq, String.reduceEq, Nat.reduceEqDiff, reduceCtorEq, Int.reduceNeg, Int.reduceLT, Int.reduceLE, Int.reduceEq, Int.reduceAdd, Int.reduceSub, Nat.reduceLT, Nat.reduceLeDiff, Nat.reduceAdd, Nat.reduceSub, Nat.reduceEqDiff]
      exact ⟨bs, rfl⟩
  generalize hq : finQ (evSs gl (callN gl Fs n) b_14 [some (.lst (X.map .str)), some (.lst (Y.map .str)), none, none, none, none, none] h) = q at key
  obtain ⟨v, h', e, rfl, bs, rfl⟩ := okR_inv key
  refine ⟨bs, ?_⟩
  rw [← e, ← hq]
end KX
namespace KX
open PySem L2.MP
def psz : Nat → D → Bool
  | n + 1, .tup xs => decide (xs.length < 1000) && xs.all (psz n)
  | n + 1, .lst xs => decide (xs.length < 1000) && xs.all (psz n)
  | _ + 1, .non => true
  | _ + 1, .bl _ => true
  | _ + 1, .int _ => true
  | _ + 1, .str _ => true
  | _, _ => false
theorem psz_pl : ∀ {n : Nat} {d : D}, psz n d = true → pl n d = true
  | 0, d, q => by cases d <;> simp [psz] at q
  | n + 1, d, q => by
    cases d with
    | tup xs =>
      simp only [psz, Bool.and_eq_true, List.all_eq_true] at q
      simp only [pl, List.all_eq_true]
      exact fun x hx => psz_pl (q.2 x hx)
    | lst xs =>
      simp only [psz, Bool.and_eq_true, List.all_eq_true] at q
      simp only [pl, List.all_eq_true]
      exact fun x hx => psz_pl (q.2 x hx)
    | non => rfl
    | bl b => rfl
    | int b => rfl
    | str b => rfl
    | _ => simp [psz] at q
theorem psz_lst {n : Nat} {xs : List D} (h : ∀ x ∈ xs, psz n x = true) (hl : xs.length < 1000) : psz (n + 1) (.lst xs) = true := by
  simp only [psz, Bool.and_eq_true, List.all_eq_true]
  exact ⟨decide_eq_true hl, h⟩
theorem psz_tup {n : Nat} {xs : List D} (h : ∀ x ∈ xs, psz n x = true) (hl : xs.length < 1000) : psz (n + 1) (.tup xs) = true := by
  simp only [psz, Bool.and_eq_true, List.all_eq_true]
  exact ⟨decide_eq_true hl, h⟩
theorem mz {h : Hs} {f : D → Hs → L2.MP.R (Option D)} : ∀ {xs ys : List D}, xs.length = ys.length → (∀ x ∈ xs, ∀ y ∈ ys, f (.tup [x, y]) h = .ok (some (.bl (decide (x = y)))) h) → mapR [] f (zipL xs ys) h = .ok ((xs.zip ys).map fun p => .bl (decide (p.1 = p.2))) h
  | [], [], _, _ => rfl
  | x :: xs, y :: ys, hl, hf => by
    have h1 := hf x (by simp) y (by simp)
    have h2 := mz (h := h) (f := f) (xs := xs) (ys := ys) (by simpa using hl) fun a ha b hb => hf a (by simp [ha]) b (by simp [hb])
    simp only [zipL, mapR, chk_nil, if_true, h1, R.bind_ok, h2, List.zip_cons_cons, List.map_cons]
  | [], _ :: _, hl, _ => by cases hl
  | _ :: _, [], hl, _ => by cases hl
theorem zip_all : ∀ {xs ys : List D}, xs.length = ys.length → (xs.zip ys).all (fun p => decide (p.1 = p.2)) = decide (xs = ys)
  | [], [], _ => rfl
  | x :: xs, y :: ys, hl => by
    have ih := zip_all (xs := xs) (ys := ys) (by simpa using hl)
    simp only [List.zip_cons_cons, List.all_cons, ih, List.cons.injEq]
    by_cases e : x = y <;> simp [e]
  | [], _ :: _, hl => by cases hl
  | _ :: _, [], hl => by cases hl
theorem zipL_len : ∀ {xs ys : List D}, xs.length = ys.length → (zipL xs ys).length = xs.length
  | [], [], _ => rfl
  | x :: xs, y :: ys, hl => by
    have ih := zipL_len (xs := xs) (ys := ys) (by simpa using hl)
    simp only [zipL, List.length_cons, ih]
  | [], _ :: _, hl => by cases hl
  | _ :: _, [], hl => by cases hl
theorem psz_tm {n : Nat} {d : D} (q : psz n d = true) : tm d = true := by
  cases n <;> cases d <;> first | rfl | (simp [psz] at q)
theorem same_all {h : Hs} : ∀ (n : Nat) {N : Nat} {v e : D}, n + 1 ≤ N → n ≤ 40 → psz n v = true → psz n e = true → callN gl Fs N 5 [v, e] h = .ok (.bl (decide (v = e))) h
  | 0, _, v, _, _, _, q, _ => by cases v <;> simp [psz] at q
  | n + 1, 0, _, _, hN, _, _, _ => absurd hN (by omega)
  | n + 1, N + 1, v, e, hN, hn, qv, qe => by
    have iv := int_ok (G := gl) (Fs := Fs) (f := 0) (m := N) (by omega) rfl (psz_tm qv) h
    have ie := int_ok (G := gl) (Fs := Fs) (f := 0) (m := N) (by omega) rfl (psz_tm qe) h
    have eb : ∀ b : Bool, endCall .pure h (.ok (.bl b) h) = .ok (.bl b) h := fun b => end_bl
    rw [c_5]
    have pv := psz_pl qv
    have pe := psz_pl qe
    have ceq := c_eq (h := h) (pl_le pv (m := 40) (by omega)) (pl_le pe (m := 40) (by omega))
    have seqs : ∀ (xs ys : List D) (o : Option D), xs.length = ys.length → (∀ x ∈ xs, psz n x = true) → (∀ y ∈ ys, psz n y = true) → mapR [] (lcQ gl (callN gl Fs N) [3, 4] (.tp [.nm 3, .nm 4]) none (E.call 5 [E.var 3, E.var 4] (Md.pure)) [some v, some e, o, none, none]) (zipL xs ys) h = .ok ((xs.zip ys).map fun p => .bl (decide (p.1 = p.2))) h := fun xs ys o hl hx hy => mz hl fun x hx' y hy' => by
      have ih := same_all (h := h) n (N := N) (v := x) (e := y) (by omega) (by omega) (hx x hx') (hy y hy')
      simp (config := {implicitDefEqProofs := false}) (disch := first | assumption | exact get_app_self | exact gA20 | exact gA21 | exact gA30 | exact gA31 | exact gA32 | omega | (simp only [evL0]; omega) | (simp only [evP0]; done)) only [evB0, evB1, evB2, evB3, evB4, evB5, evB6, evB7, evEs, evO, evC, evI, asgT, asgTs, lstOf, wipeS, lstV, seqV, if_true, if_false, eq_self, ne_eq, lcQ, ih, eb, List.isEmpty_nil, List.isEmpty_cons, Nat.reduceBEq, Int.reduceBEq, String.reduceBEq, String.reduceEq, Nat.reduceEqDiff, reduceCtorEq, Int.reduceNeg, Int.reduceLT, Int.reduceLE, Int.reduceEq, Int.reduceAdd, Int.reduceSub, Nat.reduceLT, Nat.reduceLeDiff, Nat.reduceAdd, Nat.reduceSub, Nat.reduceEqDiff]
    have lens : ∀ xs ys : List D, decide ((xs.length : Int) = (ys.length : Int)) = decide (xs.length = ys.length) := fun xs ys => decide_eq_decide.mpr (by omega)
    have mk : ∀ (b : Bool) (q : L2.MP.R D), okR q (fun w h' => w = .bl b ∧ h' = h) → q = .ok (.bl b) h := fun b q k => by
      obtain ⟨_, _, e, rfl, rfl⟩ := okR_inv k
      exact e
    unfold b_5
    cases v <;> cases e <;> first
      | (exfalso; simp [psz] at qv; done)
      | (exfalso; simp [psz] at qe; done)
      | (rw [decide_eq_false (fun z => by cases z)]; refine mk false _ (okR_fin ?_); (iterate 6 (try (refine okQ_cons ?_; simp (config := {implicitDefEqProofs := false}) (disch := first | assumption | exact get_app_self | exact gA20 | exact gA21 | exact gA30 | exact gA31 | exact gA32 | omega | (simp only [evL0]; omega) | (simp only [evP0]; done)) only [evB0, evB1, evB2, evB3, evB4, evB5, evB6, evB7, evEs, evO, evC, evI, asgT, asgTs, lstOf, wipeS, lstV, seqV, if_true, if_false, eq_self, ne_eq, iv, ie, eb, isInt, List.isEmpty_nil, List.isEmpty_cons, Nat.reduceBEq, Int.reduceBEq, String.reduceBEq, String.reduceEq, Nat.reduceEqDiff, reduceCtorEq, Int.reduceNeg, Int.reduceLT, Int.reduceLE, Int.reduceEq, Int.reduceAdd, Int.reduceSub, Nat.reduceLT, Nat.reduceLeDiff, Nat.reduceAdd, Nat.reduceSub, Nat.reduceEqDiff]))); done)
      | skip
    · refine mk true _ (okR_fin ?_)
      iterate 6 (try (refine okQ_cons ?_; simp (config := {implicitDefEqProofs := false}) (disch := first | assumption | exact get_app_self | exact gA20 | exact gA21 | exact gA30 | exact gA31 | exact gA32 | omega | (simp only [evL0]; omega) | (simp only [evP0]; done)) only [evB0, evB1, evB2, evB3, evB4, evB5, evB6, evB7, evEs, evO, evC, evI, asgT, asgTs, lstOf, wipeS, lstV, seqV, if_true, if_false, eq_self, ne_eq, iv, ie, eb, isInt, List.isEmpty_nil, List.isEmpty_cons, Nat.reduceBEq, Int.reduceBEq, String.reduceBEq, String.reduceEq, Nat.reduceEqDiff, reduceCtorEq, Int.reduceNeg, Int.reduceLT, Int.reduceLE, Int.reduceEq, Int.reduceAdd, Int.reduceSub, Nat.reduceLT, Nat.reduceLeDiff, Nat.reduceAdd, Nat.reduceSub, Nat.reduceEqDiff]))
    · rename_i a b
      rw [show decide (D.bl a = D.bl b) = (a == b) by cases a <;> cases b <;> rfl]
      rw [show eqT (D.bl a) (D.bl b) = (a == b) from rfl] at ceq
      refine mk (a == b) _ (okR_fin ?_)
      iterate 6 (try (refine okQ_cons ?_; simp (config := {implicitDefEqProofs := false}) (disch := first | assumption | exact get_app_self | exact gA20 | exact gA21 | exact gA30 | exact gA31 | exact gA32 | omega | (simp only [evL0]; omega) | (simp only [evP0]; done)) only [evB0, evB1, evB2, evB3, evB4, evB5, evB6, evB7, evEs, evO, evC, evI, asgT, asgTs, lstOf, wipeS, lstV, seqV, if_true, if_false, eq_self, ne_eq, iv, ie, eb, isInt, ceq, List.isEmpty_nil, List.isEmpty_cons, Nat.reduceBEq, Int.reduceBEq, String.reduceBEq, String.reduceEq, Nat.reduceEqDiff, reduceCtorEq, Int.reduceNeg, Int.reduceLT, Int.reduceLE, Int.reduceEq, Int.reduceAdd, Int.reduceSub, Nat.reduceLT, Nat.reduceLeDiff, Nat.reduceAdd, Nat.reduceSub, Nat.reduceEqDiff]))
    · rename_i a b
      rw [show decide (D.int a = D.int b) = decide (a = b) from decide_eq_decide.mpr ⟨fun z => by injection z, fun z => by rw [z]⟩]
      refine mk (decide (a = b)) _ (okR_fin ?_)
      iterate 6 (try (refine okQ_cons ?_; simp (config := {implicitDefEqProofs := false}) (disch := first | assumption | exact get_app_self | exact gA20 | exact gA21 | exact gA30 | exact gA31 | exact gA32 | omega | (simp only [evL0]; omega) | (simp only [evP0]; done)) only [evB0, evB1, evB2, evB3, evB4, evB5, evB6, evB7, evEs, evO, evC, evI, asgT, asgTs, lstOf, wipeS, lstV, seqV, if_true, if_false, eq_self, ne_eq, iv, ie, eb, isInt, List.isEmpty_nil, List.isEmpty_cons, Nat.reduceBEq, Int.reduceBEq, String.reduceBEq, String.reduceEq, Nat.reduceEqDiff, reduceCtorEq, Int.reduceNeg, Int.reduceLT, Int.reduceLE, Int.reduceEq, Int.reduceAdd, Int.reduceSub, Nat.reduceLT, Nat.reduceLeDiff, Nat.reduceAdd, Nat.reduceSub, Nat.reduceEqDiff]))
    · rename_i a b
      rw [show decide (D.str a = D.str b) = decide (a = b) from decide_eq_decide.mpr ⟨fun z => by injection z, fun z => by rw [z]⟩]
      refine mk (decide (a = b)) _ (okR_fin ?_)
      iterate 6 (try (refine okQ_cons ?_; simp (config := {implicitDefEqProofs := false}) (disch := first | assumption | exact get_app_self | exact gA20 | exact gA21 | exact gA30 | exact gA31 | exact gA32 | omega | (simp only [evL0]; omega) | (simp only [evP0]; done)) only [evB0, evB1, evB2, evB3, evB4, evB5, evB6, evB7, evEs, evO, evC, evI, asgT, asgTs, lstOf, wipeS, lstV, seqV, if_true, if_false, eq_self, ne_eq, iv, ie, eb, isInt, List.isEmpty_nil, List.isEmpty_cons, Nat.reduceBEq, Int.reduceBEq, String.reduceBEq, String.reduceEq, Nat.reduceEqDiff, reduceCtorEq, Int.reduceNeg, Int.reduceLT, Int.reduceLE, Int.reduceEq, Int.reduceAdd, Int.reduceSub, Nat.reduceLT, Nat.reduceLeDiff, Nat.reduceAdd, Nat.reduceSub, Nat.reduceEqDiff]))
    · rename_i xs ys
      simp only [psz, Bool.and_eq_true, List.all_eq_true, decide_eq_true_eq] at qv qe
      by_cases hl : xs.length = ys.length
      · rw [show decide (D.tup xs = D.tup ys) = decide (xs = ys) from decide_eq_decide.mpr ⟨fun z => by injection z, fun z => by rw [z]⟩]
        have sq := fun o => seqs xs ys o hl qv.2 qe.2
        have ba : ∀ nd, biD .all nd [.lst ((xs.zip ys).map fun p => .bl (decide (p.1 = p.2)))] h = .ok (.bl (decide (xs = ys))) h := fun nd => by rw [bi_all, zip_all hl]
        have zl : (zipL xs ys).length < lim := by rw [zipL_len hl]; unfold lim; omega
        refine mk (decide (xs = ys)) _ (okR_fin ?_)
        iterate 6 (try (refine okQ_cons ?_; simp (config := {implicitDefEqProofs := false}) (disch := first | assumption | exact get_app_self | exact gA20 | exact gA21 | exact gA30 | exact gA31 | exact gA32 | omega | (simp only [evL0]; omega) | (simp only [evP0]; done)) only [evB0, evB1, evB2, evB3, evB4, evB5, evB6, evB7, evEs, evO, evC, evI, asgT, asgTs, lstOf, wipeS, lstV, seqV, if_true, if_false, eq_self, ne_eq, hl, zl, sq, ba, List.isEmpty_nil, List.isEmpty_cons, Nat.reduceBEq, Int.reduceBEq, String.reduceBEq, String.reduceEq, Nat.reduceEqDiff, reduceCtorEq, Int.reduceNeg, Int.reduceLT, Int.reduceLE, Int.reduceEq, Int.reduceAdd, Int.reduceSub, Nat.reduceLT, Nat.reduceLeDiff, Nat.reduceAdd, Nat.reduceSub, Nat.reduceEqDiff]))
      · rw [decide_eq_false (show ¬ D.tup xs = D.tup ys from fun z => hl (by injection z with z; rw [z]))]
        refine mk false _ (okR_fin ?_)
        iterate 6 (try (refine okQ_cons ?_; simp (config := {implicitDefEqProofs := false}) (disch := first | assumption | exact get_app_self | exact gA20 | exact gA21 | exact gA30 | exact gA31 | exact gA32 | omega | (simp only [evL0]; omega) | (simp only [evP0]; done)) only [evB0, evB1, evB2, evB3, evB4, evB5, evB6, evB7, evEs, evO, evC, evI, asgT, asgTs, lstOf, wipeS, lstV, seqV, if_true, if_false, eq_self, ne_eq, show decide ((xs.length : Int) = (ys.length : Int)) = false from decide_eq_false (by omega), List.isEmpty_nil, List.isEmpty_cons, Nat.reduceBEq, Int.reduceBEq, String.reduceBEq, String.reduceEq, Nat.reduceEqDiff, reduceCtorEq, Int.reduceNeg, Int.reduceLT, Int.reduceLE, Int.reduceEq, Int.reduceAdd, Int.reduceSub, Nat.reduceLT, Nat.reduceLeDiff, Nat.reduceAdd, Nat.reduceSub, Nat.reduceEqDiff]))
    · rename_i xs ys
      simp only [psz, Bool.and_eq_true, List.all_eq_true, decide_eq_true_eq] at qv qe
      by_cases hl : xs.length = ys.length
      · rw [show decide (D.lst xs = D.lst ys) = decide (xs = ys) from decide_eq_decide.mpr ⟨fun z => by injection z, fun z => by rw [z]⟩]
        have sq := fun o => seqs xs ys o hl qv.2 qe.2
        have ba : ∀ nd, biD .all nd [.lst ((xs.zip ys).map fun p => .bl (decide (p.1 = p.2)))] h = .ok (.bl (decide (xs = ys))) h := fun nd => by rw [bi_all, zip_all hl]
        have zl : (zipL xs ys).length < lim := by rw [zipL_len hl]; unfold lim; omega
        refine mk (decide (xs = ys)) _ (okR_fin ?_)
        iterate 6 (try (refine okQ_cons ?_; simp (config := {implicitDefEqProofs := false}) (disch := first | assumption | exact get_app_self | exact gA20 | exact gA21 | exact gA30 | exact gA31 | exact gA32 | omega | (simp only [evL0]; omega) | (simp only [evP0]; done)) only [evB0, evB1, evB2, evB3, evB4, evB5, evB6, evB7, evEs, evO, evC, evI, asgT, asgTs, lstOf, wipeS, lstV, seqV, if_true, if_false, eq_self, ne_eq, hl, zl, sq, ba, List.isEmpty_nil, List.isEmpty_cons, Nat.reduceBEq, Int.reduceBEq, String.reduceBEq, String.reduceEq, Nat.reduceEqDiff, reduceCtorEq, Int.reduceNeg, Int.reduceLT, Int.reduceLE, Int.reduceEq, Int.reduceAdd, Int.reduceSub, Nat.reduceLT, Nat.reduceLeDiff, Nat.reduceAdd, Nat.reduceSub, Nat.reduceEqDiff]))
      · rw [decide_eq_false (show ¬ D.lst xs = D.lst ys from fun z => hl (by injection z with z; rw [z]))]
        refine mk false _ (okR_fin ?_)
        iterate 6 (try (refine okQ_cons ?_; simp (config := {implicitDefEqProofs := false}) (disch := first | assumption | exact get_app_self | exact gA20 | exact gA21 | exact gA30 | exact gA31 | exact gA32 | omega | (simp only [evL0]; omega) | (simp only [evP0]; done)) only [evB0, evB1, evB2, evB3, evB4, evB5, evB6, evB7, evEs, evO, evC, evI, asgT, asgTs, lstOf, wipeS, lstV, seqV, if_true, if_false, eq_self, ne_eq, show decide ((xs.length : Int) = (ys.length : Int)) = false from decide_eq_false (by omega), List.isEmpty_nil, List.isEmpty_cons, Nat.reduceBEq, Int.reduceBEq, String.reduceBEq, String.reduceEq, Nat.reduceEqDiff, reduceCtorEq, Int.reduceNeg, Int.reduceLT, Int.reduceLE, Int.reduceEq, Int.reduceAdd, Int.reduceSub, Nat.reduceLT, Nat.reduceLeDiff, Nat.reduceAdd, Nat.reduceSub, Nat.reduceEqDiff]))
end KX
namespace KX
open PySem L2.MP
theorem psz_up : ∀ {n : Nat} {d : D}, psz n d = true → psz (n + 1) d = true
  | 0, d, q => by cases d <;> simp [psz] at q
  | n + 1, d, q => by
    cases d with
    | tup xs =>
      simp only [psz, Bool.and_eq_true, List.all_eq_true] at q ⊢
      exact ⟨q.1, fun x hx => psz_up (q.2 x hx)⟩
    | lst xs =>
      simp only [psz, Bool.and_eq_true, List.all_eq_true] at q ⊢
      exact ⟨q.1, fun x hx => psz_up (q.2 x hx)⟩
    | non => rfl
    | bl b => rfl
    | int b => rfl
    | str b => rfl
    | _ => simp [psz] at q
def Fine (n k : Nat) (d : D) : Prop := psz n d = true ∧ GB n k d
theorem Fine.up {n k l : Nat} {d : D} (h : Fine n k d) (hk : k ≤ l) : Fine (n + 1) l d := ⟨psz_up h.1, h.2.le (by omega) hk⟩
theorem Fine.le {n k l : Nat} {d : D} (h : Fine n k d) (hk : k ≤ l) : Fine n l d := ⟨h.1, h.2.le (Nat.le_refl _) hk⟩
theorem Fine.lst {n k j l : Nat} {xs : List D} (h : ∀ x ∈ xs, Fine n k x) (hl : xs.length ≤ j) (hj : j < 1000) (hk : j * k + 2 * j + 3 ≤ l) : Fine (n + 1) l (.lst xs) := by
  refine ⟨psz_lst (fun x hx => (h x hx).1) (by omega), (GB.lst fun x hx => (h x hx).2).le (Nat.le_refl _) ?_⟩
  have := Nat.mul_le_mul_right k hl
  omega
theorem Fine.tup {n k j l : Nat} {xs : List D} (h : ∀ x ∈ xs, Fine n k x) (hl : xs.length ≤ j) (hj : j < 1000) (hk : j * k + 2 * j + 3 ≤ l) : Fine (n + 1) l (.tup xs) := by
  refine ⟨psz_tup (fun x hx => (h x hx).1) (by omega), (GB.tup fun x hx => (h x hx).2).le (Nat.le_refl _) ?_⟩
  have := Nat.mul_le_mul_right k hl
  omega
theorem mid_at {α : Type} {l : List α} {k : Nat} {x y : α} (hk : l[k]? = some y) : (l.take k ++ [x] ++ l.drop (k + 1))[k]? = some x := by
  have hl := (List.getElem?_eq_some_iff.mp hk).1
  rw [List.append_assoc, List.getElem?_append_right (by rw [List.length_take]; omega), List.length_take, Nat.min_eq_left (by omega), Nat.sub_self]
  rfl
theorem mid_ne {α : Type} {l : List α} {k : Nat} {x y : α} (hk : l[k]? = some y) (hx : x ≠ y) : l.take k ++ [x] ++ l.drop (k + 1) ≠ l := fun e => by
  have := mid_at (x := x) hk
  rw [e, hk] at this
  exact hx (Option.some.inj this).symm
theorem mid_mem {α : Type} {l : List α} {k : Nat} {x z : α} (h : z ∈ l.take k ++ [x] ++ l.drop (k + 1)) : z = x ∨ z ∈ l := by
  simp only [List.mem_append, List.mem_singleton] at h
  rcases h with (h | h) | h
  · exact .inr (List.mem_of_mem_take h)
  · exact .inl h
  · exact .inr (List.mem_of_mem_drop h)
theorem mid_len {α : Type} {l : List α} {k : Nat} {x : α} (hk : k < l.length) : (l.take k ++ [x] ++ l.drop (k + 1)).length = l.length := by
  simp only [List.length_append, List.length_take, List.length_drop, List.length_cons, List.length_nil]
  omega
theorem dg_few : ∀ c : Nat, c < 20 → okB (dg c) = true ∧ (dg c).length ≤ 2 := fun c hc => by
  have h2 := (dg_len (n := c) (k := 2) (by decide) (by omega)).1
  refine ⟨?_, h2⟩
  have : ∀ c : Fin 20, okB (dg c.1) = true := by decide +kernel
  exact this ⟨c, hc⟩
def RowsOk (m : Nat) (rows : List (List D)) : Prop := 1 ≤ rows.length ∧ rows.length ≤ 7 ∧ 1 ≤ m ∧ m ≤ 7 ∧ ∀ r ∈ rows, r.length = m ∧ ∀ z ∈ r, ∃ c : Nat, z = .int c ∧ c < 20
theorem row_fine {m : Nat} {rows : List (List D)} (h : RowsOk m rows) {r : List D} (hr : r ∈ rows) : (∀ z ∈ r, Fine 1 13 z) ∧ Fine 2 110 (.lst r) := by
  obtain ⟨_, _, _, m7, hz⟩ := h
  have f1 : ∀ z ∈ r, Fine 1 13 z := fun z hz' => by
    obtain ⟨c, rfl, hc⟩ := (hz r hr).2 z hz'
    exact ⟨rfl, int_gb (by omega)⟩
  exact ⟨f1, Fine.lst f1 (j := 7) (by rw [(hz r hr).1]; exact m7) (by decide) (by decide)⟩
section
variable {i : Nat} {h0 h : Hs}
theorem drawA {N : Nat} {m : Int} (hN : 1 ≤ N) (p : PoolAt i h0 h) (hm : 0 < m) (hm2 : m < 1073741824) : okR (callN gl Fs N 11 [.ref i, .int m] h) fun v h' => PoolAt i h0 h' ∧ ∃ d : Int, v = .int d ∧ 0 ≤ d ∧ d < m := draw_ok hN rfl p hm hm2
theorem chooseA {N : Nat} {xs : List D} (hN : 2 ≤ N) (p : PoolAt i h0 h) (hx : 0 < xs.length) (hx2 : xs.length < 1073741824) : okR (callN gl Fs N 12 [.ref i, .lst xs] h) fun v h' => PoolAt i h0 h' ∧ v ∈ xs := choose_ok hN rfl rfl p hx hx2
theorem cutA {h' t : Hs} {v : D} (hb : RefB h0) (hl : h.length = h0.length) (hi0 : i < h0.length) (q : PoolAt i (h0 ++ t) h') : endCall .cut h (.ok v h') = R.of (frz h' h0.length h'.length 40 v) (h'.take h0.length) ∧ PoolAt i h0 (h'.take h0.length) := by
  have ql := q.len
  obtain ⟨hi, a, b, hb0, hb1, rfl⟩ := q
  have e : ((h0 ++ t).set i (.lst [.int a, .int b])).take h0.length = h0.set i (.lst [.int a, .int b]) := by
    rw [List.set_append_left _ _ hi0, List.take_append_of_le_length (by simp), List.take_of_length_le (by simp)]
  have e2 : cutOk h ((h0 ++ t).set i (.lst [.int a, .int b])) = true := by
    unfold cutOk
    rw [hl, e]
    simp only [Bool.and_eq_true, decide_eq_true_eq, List.all_eq_true]
    refine ⟨by rw [ql, List.length_append]; omega, fun nd hnd => ?_⟩
    rcases List.mem_or_eq_of_mem_set hnd with hnd | rfl
    · exact hb nd hnd
    · rfl
  refine ⟨?_, hi0, a, b, hb0, hb1, e⟩
  simp only [endCall]
  rw [if_pos e2, hl]
theorem atN {α : Type} {xs : List α} {d : Int} (h0 : 0 ≤ d) (h1 : d < xs.length) : ∃ (k : Nat) (x : α), d = (k : Int) ∧ xs[k]? = some x ∧ x ∈ xs ∧ k < xs.length := by
  have hk : d.toNat < xs.length := by omega
  exact ⟨d.toNat, xs[d.toNat], by omega, List.getElem?_eq_getElem hk, List.getElem_mem hk, hk⟩
theorem n_addR {H : Hs} {k : Nat} {xs ys : List D} (e : H[k]? = some (.lst xs)) (q : xs.length + ys.length ≤ 1000000) : binD .Add (.ref k) (.lst ys) H = .ok (.lst (xs ++ ys)) H := by
  show (R.of (lstV H (.ref k)) H).bind _ = _
  rw [n_lstR e]
  show (if _ then _ else _) = _
  rw [if_pos (show xs.length + ys.length ≤ lim from q)]
theorem alt_ok {N : Nat} (hN : 3 ≤ N) {rows : List (List D)} {m : Nat} (ro : RowsOk m rows) (p : PoolAt i h0 h) :
    okR (callN gl Fs N 15 [.ref i, .lst (rows.map .lst)] h) fun v h' => (∃ t, PoolAt i (h0 ++ t) h') ∧ Fine 5 9000 v ∧ v ≠ .lst (rows.map .lst) := by
  obtain ⟨n, rfl⟩ : ∃ n, N = n + 1 := ⟨N - 1, by omega⟩
  rw [c_15]
  have ro' := ro
  obtain ⟨r1, r7, m1, m7, hz⟩ := ro
  have lR : ∀ nd H, biD .len nd [.lst (rows.map D.lst)] H = .ok (.int rows.length) H := fun nd H => by rw [bi_len_lst, List.length_map]
  obtain ⟨_, h1, e1, p1, d1, rfl, d10, d11⟩ := okR_inv (drawA (N := n) (by omega) p (m := rows.length) (by omega) (by omega))
  obtain ⟨k1, r, rfl, hr, hrm, hk1⟩ := atN d10 d11
  have a1 : ∀ H, ixD H (.lst (rows.map D.lst)) (.int (k1 : Nat)) = some (.lst r) := fun H => by
    show L2.atI _ _ = _
    exact L2.atI_nat (by rw [List.getElem?_map, hr]; rfl)
  have rl := (hz r hrm).1
  have lr : ∀ nd H, biD .len nd [.lst r] H = .ok (.int m) H := fun nd H => by rw [bi_len_lst, rl]
  obtain ⟨_, h2, e2, p2, d2, rfl, d20, d21⟩ := okR_inv (drawA (N := n) (by omega) p1 (m := m) (by omega) (by omega))
  rw [← rl] at d21
  obtain ⟨k2, z, rfl, hzk, hzm, hk2⟩ := atN d20 d21
  obtain ⟨c, rfl, hc⟩ := (hz r hrm).2 z hzm
  have a2 : ∀ H, ixD H (.lst r) (.int (k2 : Nat)) = some (.int (c : Nat)) := fun H => by
    show L2.atI _ _ = _
    exact L2.atI_nat hzk
  have hcn : -10000 < (c : Int) ∧ (c : Int) < 10000 := by omega
  have sc : ∀ nd H, biD .str nd [.int (c : Nat)] H = .ok (.str (dg c)) H := fun nd H => by rw [n_str hcn, intS_dg]
  obtain ⟨v5, h3, e3, p3, m3⟩ := okR_inv (chooseA (N := n) (xs := [.int ((c : Int) + 1), .int ((c : Int) - 1), .non, .str (dg c), .lst r]) (by omega) p2 (by simp) (by simp))
  have rf := row_fine ro' hrm
  have f5 : Fine 2 110 v5 ∧ v5 ≠ .int (c : Nat) := by
    simp only [List.mem_cons, List.not_mem_nil, or_false] at m3
    rcases m3 with rfl | rfl | rfl | rfl | rfl
    · exact ⟨Fine.up (n := 1) (k := 13) ⟨rfl, int_gb (by omega)⟩ (by decide), fun e => by injection e with e; omega⟩
    · exact ⟨Fine.up (n := 1) (k := 13) ⟨rfl, int_gb (by omega)⟩ (by decide), fun e => by injection e with e; omega⟩
    · exact ⟨⟨rfl, rfl, by decide⟩, fun e => by cases e⟩
    · exact ⟨Fine.up (n := 1) (k := 22) ⟨rfl, short_gb ⟨_, rfl, (dg_few c hc).1, (dg_few c hc).2⟩⟩ (by decide), fun e => by cases e⟩
    · exact ⟨rf.2, fun e => by cases e⟩
  have s1 : ∀ H, slD H (.lst r) none (some (k2 : Int)) = some (.lst (r.take k2)) := fun H => by
    show some (D.lst (cutL r none (some (k2 : Int)))) = _
    rw [cut_0]
  have s2 : ∀ H, slD H (.lst r) (some ((k2 : Int) + 1)) none = some (.lst (r.drop (k2 + 1))) := fun H => by
    show some (D.lst (cutL r (some ((k2 : Int) + 1)) none)) = _
    rw [show (k2 : Int) + 1 = ((k2 + 1 : Nat) : Int) by omega, cut_n]
  have s3 : ∀ H, slD H (.lst (rows.map D.lst)) none (some (k1 : Int)) = some (.lst ((rows.map D.lst).take k1)) := fun H => by
    show some (D.lst (cutL _ none (some (k1 : Int)))) = _
    rw [cut_0]
  have s4 : ∀ H, slD H (.lst (rows.map D.lst)) (some ((k1 : Int) + 1)) none = some (.lst ((rows.map D.lst).drop (k1 + 1))) := fun H => by
    show some (D.lst (cutL _ (some ((k1 : Int) + 1)) none)) = _
    rw [show (k1 : Int) + 1 = ((k1 + 1 : Nat) : Int) by omega, cut_n]
  have ma : ∀ x : D, ((rows.map D.lst).take k1 ++ [x] ++ (rows.map D.lst).drop (k1 + 1)).length = rows.length := fun x => by
    rw [mid_len (by rw [List.length_map]; exact hk1), List.length_map]
  obtain ⟨r0, hr0, hr0m⟩ : ∃ r0, rows[0]? = some r0 ∧ r0 ∈ rows := ⟨rows[0], List.getElem?_eq_getElem (by omega), List.getElem_mem _⟩
  have a0 : ∀ H, ixD H (.lst (rows.map D.lst)) (.int 0) = some (.lst r0) := fun H => by
    show L2.atI _ _ = _
    exact L2.atI_nat (j := 0) (by rw [List.getElem?_map, hr0]; rfl)
  have rm : ∀ z ∈ r.take k2 ++ [v5] ++ r.drop (k2 + 1), Fine 2 110 z := fun z hz => by
    rcases mid_mem hz with rfl | hz
    · exact f5.1
    · exact (rf.1 z hz).up (by decide)
  have rml : (r.take k2 ++ [v5] ++ r.drop (k2 + 1)).length = m := by rw [mid_len hk2, rl]
  have rne : r.take k2 ++ [v5] ++ r.drop (k2 + 1) ≠ r := mid_ne hzk f5.2
  have rfine : Fine 3 900 (.lst (r.take k2 ++ [v5] ++ r.drop (k2 + 1))) := Fine.lst rm (j := 7) (by omega) (by decide) (by decide)
  have z0 : Fine 2 130 (.lst (r ++ [.int 0])) := Fine.lst (n := 1) (k := 13) (j := 8) (fun z hz => by
    rcases List.mem_append.mp hz with hz | hz
    · exact rf.1 z hz
    · rw [List.mem_singleton.mp hz]
      exact ⟨rfl, int_gb (by decide)⟩) (by rw [List.length_append, rl]; show m + 1 ≤ 8; omega) (by decide) (by decide)
  have tf : ∀ z ∈ rows.map D.lst, Fine 2 110 z := fun z hz => by
    obtain ⟨q, hq, rfl⟩ := List.mem_map.mp hz
    exact (row_fine ro' hq).2
  have rtup : Fine 2 110 (.tup r) := Fine.tup rf.1 (j := 7) (by omega) (by decide) (by decide)
  have hkT : (rows.map D.lst)[k1]? = some (.lst r) := by rw [List.getElem?_map, hr]; rfl
  have lT : (rows.map D.lst).length = rows.length := List.length_map ..
  have t1 : ((rows.map D.lst).take k1).length ≤ 7 := by rw [List.length_take]; omega
  have t2 : ((rows.map D.lst).drop (k1 + 1)).length ≤ 7 := by rw [List.length_drop]; omega
  have t3 : ((rows.map D.lst).take k1).length + ((rows.map D.lst).drop (k1 + 1)).length + 1 = rows.length := by rw [List.length_drop, List.length_take]; omega
  have t4 : (r.take k2).length ≤ 7 := by rw [List.length_take]; omega
  have t5 : (r.drop (k2 + 1)).length ≤ 7 := by rw [List.length_drop]; omega
  have adj : ∀ {xs ys : List D} {H : Hs}, xs.length ≤ 20 → ys.length ≤ 20 → binD .Add (.lst xs) (.lst ys) H = .ok (.lst (xs ++ ys)) H := fun h1 h2 => n_addl (by omega)
  generalize hT : rows.map D.lst = T at *
  have q1 : ∀ x : D, Fine 3 900 x → x ≠ .lst r → Fine 5 9000 (.lst (T.take k1 ++ [x] ++ T.drop (k1 + 1))) ∧ D.lst (T.take k1 ++ [x] ++ T.drop (k1 + 1)) ≠ .lst T := fun x fx nx => by
    refine ⟨(Fine.lst (n := 3) (k := 900) (j := 7) (l := 9000) (fun z hz => ?_) (by rw [ma]; exact r7) (by decide) (by decide)).up (by decide), fun e => mid_ne hkT nx (by injection e)⟩
    rcases mid_mem hz with rfl | hz
    · exact fx
    · exact (tf z hz).up (by decide)
  refine okR_fin (okQ_cons ?_)
  simp (config := {implicitDefEqProofs := false}) (disch := first | assumption | exact get_app_self | exact gA20 | exact gA21 | exact gA30 | exact gA31 | exact gA32 | omega | (simp only [evL0]; omega) | (simp only [evP0]; done)) only [evB0, evB1, evB2, evB3, evB4, evB5, evB6, evB7, evEs, evO, evC, evI, asgT, asgTs, lstOf, wipeS, lstV, seqV, if_true, if_false, eq_self, ne_eq, lR, e1, List.isEmpty_nil, List.isEmpty_cons, Nat.reduceBEq, Int.reduceBEq, String.reduceBEq, String.reduceEq, Nat.reduceEqDiff, reduceCtorEq, Int.reduceNeg, Int.reduceLT, Int.reduceLE, Int.reduceEq, Int.reduceAdd, Int.reduceSub, Nat.reduceLT, Nat.reduceLeDiff, Nat.reduceAdd, Nat.reduceSub, Nat.reduceEqDiff]
  refine okQ_cons ?_
  simp (config := {implicitDefEqProofs := false}) (disch := first | assumption | exact get_app_self | exact gA20 | exact gA21 | exact gA30 | exact gA31 | exact gA32 | omega | (simp only [evL0]; omega) | (simp only [evP0]; done)) only [evB0, evB1, evB2, evB3, evB4, evB5, evB6, evB7, evEs, evO, evC, evI, asgT, asgTs, lstOf, wipeS, lstV, seqV, if_true, if_false, eq_self, ne_eq, a1, lr, e2, List.isEmpty_nil, List.isEmpty_cons, Nat.reduceBEq, Int.reduceBEq, String.reduceBEq, String.reduceEq, Nat.reduceEqDiff, reduceCtorEq, Int.reduceNeg, Int.reduceLT, Int.reduceLE, Int.reduceEq, Int.reduceAdd, Int.reduceSub, Nat.reduceLT, Nat.reduceLeDiff, Nat.reduceAdd, Nat.reduceSub, Nat.reduceEqDiff]
  refine okQ_cons ?_
  simp (config := {implicitDefEqProofs := false}) (disch := first | assumption | exact get_app_self | exact gA20 | exact gA21 | exact gA30 | exact gA31 | exact gA32 | omega | (simp only [evL0]; omega) | (simp only [evP0]; done)) only [evB0, evB1, evB2, evB3, evB4, evB5, evB6, evB7, evEs, evO, evC, evI, asgT, asgTs, lstOf, wipeS, lstV, seqV, if_true, if_false, eq_self, ne_eq, a1, a2, List.isEmpty_nil, List.isEmpty_cons, Nat.reduceBEq, Int.reduceBEq, String.reduceBEq, String.reduceEq, Nat.reduceEqDiff, reduceCtorEq, Int.reduceNeg, Int.reduceLT, Int.reduceLE, Int.reduceEq, Int.reduceAdd, Int.reduceSub, Nat.reduceLT, Nat.reduceLeDiff, Nat.reduceAdd, Nat.reduceSub, Nat.reduceEqDiff]
  refine okQ_cons ?_
  simp (config := {implicitDefEqProofs := false}) (disch := first | assumption | exact get_app_self | exact gA20 | exact gA21 | exact gA30 | exact gA31 | exact gA32 | omega | (simp only [evL0]; omega) | (simp only [evP0]; done)) only [evB0, evB1, evB2, evB3, evB4, evB5, evB6, evB7, evEs, evO, evC, evI, asgT, asgTs, lstOf, wipeS, lstV, seqV, if_true, if_false, eq_self, ne_eq, a1, sc, e3, List.isEmpty_nil, List.isEmpty_cons, Nat.reduceBEq, Int.reduceBEq, String.reduceBEq, String.reduceEq, Nat.reduceEqDiff, reduceCtorEq, Int.reduceNeg, Int.reduceLT, Int.reduceLE, Int.reduceEq, Int.reduceAdd, Int.reduceSub, Nat.reduceLT, Nat.reduceLeDiff, Nat.reduceAdd, Nat.reduceSub, Nat.reduceEqDiff]
  refine okQ_cons ?_
  simp (config := {implicitDefEqProofs := false}) (disch := first | assumption | exact get_app_self | exact gA20 | exact gA21 | exact gA30 | exact gA31 | exact gA32 | omega | (simp only [evL0]; omega) | (simp only [evP0]; done)) only [evB0, evB1, evB2, evB3, evB4, evB5, evB6, evB7, evEs, evO, evC, evI, asgT, asgTs, lstOf, wipeS, lstV, seqV, if_true, if_false, eq_self, ne_eq, a1, s1, s2, adj (show (r.take k2).length ≤ 20 by omega) (show [v5].length ≤ 20 by simp), adj (show (r.take k2 ++ [v5]).length ≤ 20 by simp; omega) (show (r.drop (k2 + 1)).length ≤ 20 by omega), List.isEmpty_nil, List.isEmpty_cons, Nat.reduceBEq, Int.reduceBEq, String.reduceBEq, String.reduceEq, Nat.reduceEqDiff, reduceCtorEq, Int.reduceNeg, Int.reduceLT, Int.reduceLE, Int.reduceEq, Int.reduceAdd, Int.reduceSub, Nat.reduceLT, Nat.reduceLeDiff, Nat.reduceAdd, Nat.reduceSub, Nat.reduceEqDiff]
  refine okQ_cons ?_
  simp (config := {implicitDefEqProofs := false}) (disch := first | assumption | exact get_app_self | exact gA20 | exact gA21 | exact gA30 | exact gA31 | exact gA32 | omega | (simp only [evL0]; omega) | (simp only [evP0]; done)) only [evB0, evB1, evB2, evB3, evB4, evB5, evB6, evB7, evEs, evO, evC, evI, asgT, asgTs, lstOf, wipeS, lstV, seqV, if_true, if_false, eq_self, ne_eq, s3, s4, asgT, asgTs, List.isEmpty_nil, List.isEmpty_cons, Nat.reduceBEq, Int.reduceBEq, String.reduceBEq, String.reduceEq, Nat.reduceEqDiff, reduceCtorEq, Int.reduceNeg, Int.reduceLT, Int.reduceLE, Int.reduceEq, Int.reduceAdd, Int.reduceSub, Nat.reduceLT, Nat.reduceLeDiff, Nat.reduceAdd, Nat.reduceSub, Nat.reduceEqDiff]
  have rvn : D.lst (r.take k2 ++ [v5] ++ r.drop (k2 + 1)) ≠ .lst r := fun e => rne (by injection e)
  clear rne rm rml
  generalize D.lst (r.take k2 ++ [v5] ++ r.drop (k2 + 1)) = rv at *
  have q2 : Fine 5 9000 (.lst (T.take k1 ++ T.drop (k1 + 1))) ∧ D.lst (T.take k1 ++ T.drop (k1 + 1)) ≠ .lst T := by
    refine ⟨(Fine.lst (n := 3) (k := 900) (j := 7) (l := 9000) (fun z hz => ?_) (by rw [List.length_append]; omega) (by decide) (by decide)).up (by decide), fun e => ?_⟩
    · rcases List.mem_append.mp hz with hz | hz
      · exact (tf z (List.mem_of_mem_take hz)).up (by decide)
      · exact (tf z (List.mem_of_mem_drop hz)).up (by decide)
    · injection e with e
      have := congrArg List.length e
      rw [List.length_append, lT] at this
      omega
  have q3 : Fine 5 9000 (.lst (T ++ [.lst r0])) ∧ D.lst (T ++ [.lst r0]) ≠ .lst T := by
    refine ⟨(Fine.lst (n := 3) (k := 900) (j := 8) (l := 9000) (fun z hz => ?_) (by rw [List.length_append, lT]; show rows.length + 1 ≤ 8; omega) (by decide) (by decide)).up (by decide), fun e => ?_⟩
    · rcases List.mem_append.mp hz with hz | hz
      · exact (tf z hz).up (by decide)
      · rw [List.mem_singleton.mp hz]
        exact (row_fine ro' hr0m).2.up (by decide)
    · injection e with e
      have := congrArg List.length e
      rw [List.length_append] at this
      simp at this
  have q4 : Fine 5 9000 (.tup T) ∧ D.tup T ≠ .lst T := ⟨(Fine.tup (n := 3) (k := 900) (j := 7) (l := 9000) (fun z hz => (tf z hz).up (by decide)) (by omega) (by decide) (by decide)).up (by decide), fun e => by cases e⟩
  have q5 : Fine 5 9000 .non ∧ D.non ≠ .lst T := ⟨⟨rfl, rfl, by decide⟩, fun e => by cases e⟩
  have q0 := q1 rv rfine rvn
  have q6 := q1 (.tup r) (rtup.up (by decide)) (fun e => by cases e)
  have q7 := q1 (.lst (r ++ [.int 0])) (z0.up (by decide)) (fun e => by
    injection e with e
    have := congrArg List.length e
    rw [List.length_append] at this
    simp at this)
  generalize hh : T.take k1 = hd at *
  generalize ht : T.drop (k1 + 1) = tl at *
  have b1 := fun (x : D) H => adj (xs := hd) (ys := [x]) (H := H) (by omega) (by simp)
  have b2 := fun (x : D) H => adj (xs := hd ++ [x]) (ys := tl) (H := H) (by simp; omega) (by omega)
  have b3 := fun H => adj (xs := hd) (ys := tl) (H := H) (by omega) (by omega)
  have b4 := fun (x : D) H => adj (xs := T) (ys := [x]) (H := H) (by omega) (by simp)
  have b5 := fun H => adj (xs := r) (ys := [.int 0]) (H := H) (by omega) (by simp)
  refine okQ_cons ?_
  simp (config := {implicitDefEqProofs := false}) (disch := first | assumption | exact get_app_self | exact gA20 | exact gA21 | exact gA30 | exact gA31 | exact gA32 | omega | (simp only [evL0]; omega) | (simp only [evP0]; done)) only [evB0, evB1, evB2, evB3, evB4, evB5, evB6, evB7, evEs, evO, evC, evI, asgT, asgTs, lstOf, wipeS, lstV, seqV, if_true, if_false, eq_self, ne_eq, a0, b1, b2, b3, b4, List.isEmpty_nil, List.isEmpty_cons, Nat.reduceBEq, Int.reduceBEq, String.reduceBEq, String.reduceEq, Nat.reduceEqDiff, reduceCtorEq, Int.reduceNeg, Int.reduceLT, Int.reduceLE, Int.reduceEq, Int.reduceAdd, Int.reduceSub, Nat.reduceLT, Nat.reduceLeDiff, Nat.reduceAdd, Nat.reduceSub, Nat.reduceEqDiff]
  generalize hv1 : D.lst (hd ++ tl) = v1 at *
  generalize hv2 : D.lst (T ++ [.lst r0]) = v2 at *
  generalize hv0 : D.lst (hd ++ [rv] ++ tl) = v0 at *
  refine okQ_cons ?_
  simp (config := {implicitDefEqProofs := false}) (disch := first | assumption | exact get_app_self | exact gA20 | exact gA21 | exact gA30 | exact gA31 | exact gA32 | omega | (simp only [evL0]; omega) | (simp only [evP0]; done)) only [evB0, evB1, evB2, evB3, evB4, evB5, evB6, evB7, evEs, evO, evC, evI, asgT, asgTs, lstOf, wipeS, lstV, seqV, if_true, if_false, eq_self, ne_eq, a1, b1, b2, List.isEmpty_nil, List.isEmpty_cons, Nat.reduceBEq, Int.reduceBEq, String.reduceBEq, String.reduceEq, Nat.reduceEqDiff, reduceCtorEq, Int.reduceNeg, Int.reduceLT, Int.reduceLE, Int.reduceEq, Int.reduceAdd, Int.reduceSub, Nat.reduceLT, Nat.reduceLeDiff, Nat.reduceAdd, Nat.reduceSub, Nat.reduceEqDiff]
  generalize hv6 : D.lst (hd ++ [.tup r] ++ tl) = v6 at *
  obtain ⟨v, h7, e7, p7, m7⟩ := okR_inv (chooseA (N := n) (xs := [v0, v1, v2, .tup T, .non, v6, .lst (hd ++ [.lst (r ++ [.int 0])] ++ tl)]) (by omega) (p3.app (t := [Nd.lst [v0, v1, v2, .tup T, .non, v6]])) (by simp) (by simp))
  have ad := n_addR (H := h3 ++ [Nd.lst [v0, v1, v2, .tup T, .non, v6]]) (k := h3.length) (ys := [.lst (hd ++ [.lst (r ++ [.int 0])] ++ tl)]) get_app_self (by simp)
  simp only [List.cons_append, List.nil_append] at ad
  simp (config := {implicitDefEqProofs := false}) (disch := first | assumption | exact get_app_self | exact gA20 | exact gA21 | exact gA30 | exact gA31 | exact gA32 | omega | (simp only [evL0]; omega) | (simp only [evP0]; done)) only [evB0, evB1, evB2, evB3, evB4, evB5, evB6, evB7, evEs, evO, evC, evI, asgT, asgTs, lstOf, wipeS, lstV, seqV, if_true, if_false, eq_self, ne_eq, evSs, a1, b5, b1, b2, ad, e7, List.isEmpty_nil, List.isEmpty_cons, Nat.reduceBEq, Int.reduceBEq, String.reduceBEq, String.reduceEq, Nat.reduceEqDiff, reduceCtorEq, Int.reduceNeg, Int.reduceLT, Int.reduceLE, Int.reduceEq, Int.reduceAdd, Int.reduceSub, Nat.reduceLT, Nat.reduceLeDiff, Nat.reduceAdd, Nat.reduceSub, Nat.reduceEqDiff]
  refine ⟨⟨_, p7⟩, ?_⟩
  simp only [List.mem_cons, List.not_mem_nil, or_false] at m7
  rcases m7 with rfl | rfl | rfl | rfl | rfl | rfl | rfl
  · exact q0
  · exact q2
  · exact q3
  · exact q4
  · exact q5
  · exact q6
  · exact q7
end
end KX
namespace KX
open PySem L2.MP
theorem deep_tail {h : Hs} {gs : List (List D)} (hg : gs ≠ []) (hp : ∀ g ∈ gs, ∀ z ∈ g, pl 9 z = true) : deep false (h ++ tailG h.length gs) 40 (.ref (h.length + 1)) = some (.lst (gs.map .lst)) := by
  have g1 := tail_top (h0 := h) hg
  have g2 := fun k g => tail_get (h0 := h) (gs := gs) (k := k) (g := g)
  have e1 : ∀ k, k < gs.length → deep false (h ++ tailG h.length gs) 39 (.ref (adr h.length k)) = some (.lst ((gs[k]?).getD [])) := fun k hk => by
    have gk : gs[k]? = some gs[k] := by simp [hk]
    have g3 := g2 k _ gk
    simp only [deep, g3, Option.bind_some, seqN, gk, Option.getD_some]
    rw [mapO_id fun x hx => deep_pl (pl_le (hp _ (List.getElem_mem hk) x hx) (by decide))]
    rfl
  simp only [deep, g1, Option.bind_some, seqN]
  have : mapO (deep false (h ++ tailG h.length gs) 39) (refsG h.length gs.length) = some ((List.range gs.length).map fun k => D.lst ((gs[k]?).getD [])) := mapO_map_mem fun k hk => e1 k (List.mem_range.mp hk)
  rw [this, range_get (F := D.lst)]
  rfl
theorem rows_mem {X Y : List Wd} {n m : Nat} {g : List D} (h : g ∈ rowsL X Y n m) : ∃ k, k < n ∧ g = rowD X Y k m := by
  obtain ⟨k, hk, rfl⟩ := List.mem_map.mp h
  exact ⟨k, List.mem_range.mp hk, rfl⟩
theorem rows_pl {X Y : List Wd} {n m j : Nat} : ∀ g ∈ rowsL X Y n m, ∀ z ∈ g, pl (j + 1) z = true := fun g hg z hz => by
  obtain ⟨k, _, rfl⟩ := rows_mem hg
  exact row_pl z hz
theorem tab_rows {X Y : List Wd} (lx : X.length ≤ 6) (ly : Y.length ≤ 6) : RowsOk (Y.length + 1) (rowsL X Y (X.length + 1) (Y.length + 1)) := by
  refine ⟨by rw [rows_len]; omega, by rw [rows_len]; omega, by omega, by omega, fun r hr => ?_⟩
  obtain ⟨k, hk, rfl⟩ := rows_mem hr
  refine ⟨row_len, fun z hz => ?_⟩
  obtain ⟨j, hj, rfl⟩ := List.mem_map.mp hz
  have hj := List.mem_range.mp hj
  have := tt_le (X := X) (Y := Y) (i := k) (j := j) (by omega) (by omega)
  exact ⟨_, rfl, by omega⟩
theorem psz_le {n m : Nat} {d : D} (q : psz n d = true) (h : n ≤ m) : psz m d = true := by
  induction h with
  | refl => exact q
  | step _ ih => exact psz_up ih
theorem tab_psz {X Y : List Wd} (lx : X.length ≤ 6) (ly : Y.length ≤ 6) : psz 5 (tabD X Y) = true := by
  have ro := tab_rows lx ly
  refine psz_le (n := 3) (psz_lst (fun x hx => ?_) (by rw [List.length_map]; have := ro.2.1; omega)) (by decide)
  obtain ⟨r, hr, rfl⟩ := List.mem_map.mp hx
  exact (row_fine ro hr).2.1
theorem ht_deep {h : Hs} {X Y : List Wd} : deep false (HT0 h X Y X.length) 40 (.ref (h.length + 1)) = some (tabD X Y) := deep_tail rows_ne rows_pl
theorem ht_ne {h : Hs} {X Y : List Wd} (lx : X.length ≤ 6) (ly : Y.length ≤ 6) : cmpD (HT0 h X Y X.length) .NotEq (.ref (h.length + 1)) (tabD X Y) = some false := by
  have p : pl 40 (tabD X Y) = true := pl_le (psz_pl (tab_psz lx ly)) (by decide)
  show (eqD _ _ _).map _ = _
  unfold eqD
  rw [ht_deep, deep_pl p]
  show (some (eqT (tabD X Y) (tabD X Y))).map _ = _
  rw [eqT_refl p]
  rfl
theorem ht_eq {h : Hs} {X Y : List Wd} (lx : X.length ≤ 6) (ly : Y.length ≤ 6) : cmpD (HT0 h X Y X.length) .Eq (.ref (h.length + 1)) (tabD X Y) = some true := by
  have p : pl 40 (tabD X Y) = true := pl_le (psz_pl (tab_psz lx ly)) (by decide)
  show eqD _ _ _ = _
  unfold eqD
  rw [ht_deep, deep_pl p]
  show some (eqT (tabD X Y) (tabD X Y)) = _
  rw [eqT_refl p]
theorem ev_isf {G : Gl} {C : Nat → List D → Hs → L2.MP.R D} {f : Nat} {es : List E} {sl : Sl} {h : Hs} : evE G C (.isf f es) sl h = (evEs G C es sl h).bind fun vs h => (R.of (mapO (deep false h 40) vs) h).bind fun ws h => R.at h (noLR (endCall .pure [] (C f ws []))) := by rw [evE]
/-- is_edit_table -/
theorem iet_ok {N : Nat} (hN : 10 ≤ N) {H : Hs} {X Y : List Wd} (hx : ∀ w ∈ X, okW w) (lx : X.length ≤ 6) (hy : ∀ w ∈ Y, okW w) (ly : Y.length ≤ 6) {v : D} (hv : psz 5 v = true) :
    endCall .pure H (callN gl Fs N 9 [.lst (X.map .str), .lst (Y.map .str), v] H) = .ok (.bl (decide (v = tabD X Y))) H := by
  obtain ⟨n, rfl⟩ : ∃ n, N = n + 1 := ⟨N - 1, by omega⟩
  rw [c_9]
  have er := et_raw (N := n) (h := H) (by omega) hx lx hy ly
  have pv : pl 40 v = true := pl_le (psz_pl hv) (by decide)
  have sa := same_all (h := []) 5 (N := n) (v := v) (e := tabD X Y) (by omega) (by decide) hv (tab_psz lx ly)
  have dm : mapO (deep false (HT0 H X Y X.length) 40) [v, .ref (H.length + 1)] = some [v, tabD X Y] := by
    simp only [mapO, deep_pl pv, ht_deep, Option.bind_some]
  have e0 : endCall .pure [] (.ok (.bl (decide (v = tabD X Y))) []) = .ok (.bl (decide (v = tabD X Y))) [] := end_bl
  unfold b_9
  generalize hA : D.lst (X.map D.str) = A at *
  generalize hB : D.lst (Y.map D.str) = B at *
  generalize decide (v = tabD X Y) = bb at *
  generalize tabD X Y = T at *
  have key : okR (finQ (evSs gl (callN gl Fs n) [S.ret (some (E.isf 5 [E.var 2, E.call 8 [E.var 0, E.var 1] (Md.raw)]))] [some A, some B, some v] H)) fun w h' => w = .bl bb ∧ h' = HT0 H X Y X.length := by
    simp (config := {implicitDefEqProofs := false}) (disch := first | assumption | exact get_app_self | exact gA20 | exact gA21 | exact gA30 | exact gA31 | exact gA32 | omega | (simp only [evL0]; omega) | (simp only [evP0]; done)) only [evB0, evB1, evB2, evB3, evB4, evB5, evB6, evB7, evEs, evO, evC, evI, asgT, asgTs, lstOf, wipeS, lstV, seqV, if_true, if_false, eq_self, ne_eq, evSs, ev_isf, er, dm, sa, e0, noLR, noL, R.at, List.isEmpty_nil, List.isEmpty_cons, Nat.reduceBEq, Int.reduceBEq, String.reduceBEq, String.reduceEq, Nat.reduceEqDiff, reduceCtorEq, Int.reduceNeg, Int.reduceLT, Int.reduceLE, Int.reduceEq, Int.reduceAdd, Int.reduceSub, Nat.reduceLT, Nat.reduceLeDiff, Nat.reduceAdd, Nat.reduceSub, Nat.reduceEqDiff]
  obtain ⟨_, _, e, rfl, rfl⟩ := okR_inv key
  refine (congrArg (endCall .pure H) e).trans ?_
  exact end_plA (x := .bl bb) rfl
mutual
theorem refB_mono {n m : Nat} (hm : n ≤ m) : ∀ {d : D}, refB n d = true → refB m d = true
  | .ref i, h => by
    simp only [refB, decide_eq_true_eq] at h ⊢
    omega
  | .tup xs, h => by
    simp only [refB] at h ⊢
    exact refBs_mono hm h
  | .lst xs, h => by
    simp only [refB] at h ⊢
    exact refBs_mono hm h
  | .exn c fs, h => by
    simp only [refB] at h ⊢
    exact refBs_mono hm h
  | .non, _ => rfl
  | .bl _, _ => rfl
  | .int _, _ => rfl
  | .str _, _ => rfl
  | .dic _ _, _ => rfl
  | .scr _, _ => rfl
  | .kup _, _ => rfl
theorem refBs_mono {n m : Nat} (hm : n ≤ m) : ∀ {xs : List D}, refBs n xs = true → refBs m xs = true
  | [], _ => rfl
  | x :: xs, h => by
    simp only [refBs, Bool.and_eq_true] at h ⊢
    exact ⟨refB_mono hm h.1, refBs_mono hm h.2⟩
end
theorem refBs_ints {n : Nat} {xs : List D} (h : ∀ z ∈ xs, ∃ i : Int, z = .int i) : refBs n xs = true := refBs_all fun z hz => by
  obtain ⟨i, rfl⟩ := h z hz
  rfl
theorem ref_up : ∀ {n m : Nat} {nd : Nd}, n ≤ m → refN n nd = true → refN m nd = true := fun {n m nd} hm h => by
  cases nd with
  | lst xs => exact refBs_mono hm h
  | dic t ks vs => exact refBs_mono hm h
  | ins c fs => exact refBs_mono hm h
theorem refB_tail {h : Hs} {gs : List (List D)} (hb : RefB h) (hg : ∀ g ∈ gs, ∀ z ∈ g, ∃ i : Int, z = .int i) (hn : gs ≠ []) : RefB (h ++ tailG h.length gs) := by
  intro nd hnd
  rcases List.mem_append.mp hnd with hnd | hnd
  · exact ref_up (by simp) (hb nd hnd)
  · cases gs with
    | nil => exact absurd rfl hn
    | cons g r =>
      have rn : ∀ xs ∈ g :: r, refN (h ++ tailG h.length (g :: r)).length (.lst xs) = true := fun xs hx => refBs_ints (hg xs hx)
      have ln : (h ++ tailG h.length (g :: r)).length = h.length + 2 + r.length := by simp [tailG]; omega
      simp only [tailG, List.mem_cons, List.mem_map] at hnd
      rcases hnd with rfl | rfl | ⟨x, hx, rfl⟩
      · exact rn g (by simp)
      · rw [ln]
        refine refBs_all fun z hz => ?_
        obtain ⟨k, hk, rfl⟩ := List.mem_map.mp hz
        have hk := List.mem_range.mp hk
        refine decide_eq_true ?_
        cases k <;> simp only [adr] <;> omega
      · exact rn x (by simp [hx])
theorem row_ints {X Y : List Wd} {n m : Nat} : ∀ g ∈ rowsL X Y n m, ∀ z ∈ g, ∃ i : Int, z = .int i := fun g hg z hz => by
  obtain ⟨k, _, rfl⟩ := rows_mem hg
  obtain ⟨j, _, rfl⟩ := List.mem_map.mp hz
  exact ⟨_, rfl⟩
theorem refB_ht {h : Hs} {X Y : List Wd} {i : Nat} (hb : RefB h) : RefB (HT0 h X Y i) := refB_tail hb row_ints rows_ne
theorem refB_set {h : Hs} {j : Nat} {nd : Nd} (hb : RefB h) (hn : refN h.length nd = true) : RefB (h.set j nd) := by
  intro x hx
  rw [List.length_set]
  rcases List.mem_or_eq_of_mem_set hx with hx | rfl
  · exact hb x hx
  · exact hn
theorem refB_pool {i : Nat} {h0 h : Hs} (hb : RefB h0) (p : PoolAt i h0 h) : RefB h := by
  obtain ⟨_, a, b, _, _, rfl⟩ := p
  exact refB_set hb rfl
end KX
namespace KX
open PySem L2.MP
def W5 : List Wd := [[120], [121], [120, 32, 121], [122], [120]]
theorem w5_ok : ∀ w ∈ W5, okW w := by
  have : W5.all (fun w => isLineS w && (decide (w.length < 100) && decide ((splitL 32 w).length ≤ 16))) = true := by decide +kernel
  intro w hw
  have := List.all_eq_true.mp this w hw
  simp only [Bool.and_eq_true, decide_eq_true_eq] at this
  exact this
theorem strs_of {P : Wd → Prop} : ∀ {ys : List D}, (∀ y ∈ ys, ∃ w, y = .str w ∧ P w) → ∃ ws : List Wd, ys = ws.map .str ∧ ∀ w ∈ ws, P w
  | [], _ => ⟨[], rfl, fun _ h => by cases h⟩
  | y :: ys, h => by
    obtain ⟨w, rfl, hw⟩ := h y (by simp)
    obtain ⟨ws, rfl, hs⟩ := strs_of (ys := ys) fun z hz => h z (by simp [hz])
    exact ⟨w :: ws, rfl, fun z hz => by
      rcases List.mem_cons.mp hz with rfl | hz
      · exact hw
      · exact hs z hz⟩
/-- the drawn lines -/
theorem lines_ok {N i : Nat} {h0 h : Hs} (hN : 2 ≤ N) (p : PoolAt i h0 h) {its : List Wd} (hi : ∀ w ∈ its, w ∈ W5) (h1 : 1 ≤ its.length) (h5 : its.length ≤ 5) {d : Int} (d0 : 0 ≤ d) (d7 : d < 7) {a0 a1 a4 a5 a6 a7 a8 a9 a10 : Option D} :
    okR (mapR [] (lcQ gl (callN gl Fs N) [8] (.nm 8) none (E.call 12 [E.var 2, E.var 3] (Md.raw)) [a0, a1, some (.ref i), some (.lst (its.map .str)), a4, a5, a6, a7, a8, a9, a10]) (rangeL 0 d.toNat) h) fun ys h' => PoolAt i h0 h' ∧ ∃ X : List Wd, ys = X.map .str ∧ (∀ w ∈ X, okW w) ∧ X.length ≤ 6 := by
  refine okR_mono (mapR_one (PoolAt i h0) (fun _ y => ∃ w, y = .str w ∧ okW w) (fun _ _ => rfl) ?_ p) ?_
  · intro x _ h6 p6
    obtain ⟨v, h7, e7, p7, m7⟩ := okR_inv (chooseA (N := N) hN p6 (xs := its.map .str) (by rw [List.length_map]; omega) (by rw [List.length_map]; omega))
    obtain ⟨w, hw, rfl⟩ := List.mem_map.mp m7
    generalize D.lst (its.map D.str) = L at *
    simp (config := {implicitDefEqProofs := false}) (disch := first | assumption | exact get_app_self | exact gA20 | exact gA21 | exact gA30 | exact gA31 | exact gA32 | omega | (simp only [evL0]; omega) | (simp only [evP0]; done)) only [evB0, evB1, evB2, evB3, evB4, evB5, evB6, evB7, evEs, evO, evC, evI, asgT, asgTs, lstOf, wipeS, lstV, seqV, if_true, if_false, eq_self, ne_eq, lcQ, e7, List.isEmpty_nil, List.isEmpty_cons, Nat.reduceBEq, Int.reduceBEq, String.reduceBEq, String.reduceEq, Nat.reduceEqDiff, reduceCtorEq, Int.reduceNeg, Int.reduceLT, Int.reduceLE, Int.reduceEq, Int.reduceAdd, Int.reduceSub, Nat.reduceLT, Nat.reduceLeDiff, Nat.reduceAdd, Nat.reduceSub, Nat.reduceEqDiff]
    exact ⟨p7, _, rfl, w, rfl, w5_ok w (hi w hw)⟩
  rintro ys h6 ⟨p6, a6⟩
  obtain ⟨X, rfl, hX⟩ := strs_of (P := okW) fun y hy => by
    obtain ⟨_, _, m⟩ := a6.right y hy
    exact m
  have hl := a6.length
  rw [length_range, List.length_map] at hl
  exact ⟨p6, X, rfl, hX, by omega⟩
theorem cut_its {d : Int} (d0 : 0 ≤ d) (d4 : d < 4) : ∃ its : List Wd, cutL (W5.map D.str) none (some (2 + d)) = its.map .str ∧ (∀ w ∈ its, w ∈ W5) ∧ 1 ≤ its.length ∧ its.length ≤ 5 := by
  refine ⟨W5.take (2 + d).toNat, ?_, fun w hw => List.mem_of_mem_take hw, ?_, ?_⟩
  · rw [show 2 + d = (((2 + d).toNat : Nat) : Int) by omega, cut_0, List.map_take]
    congr 1
  · rw [List.length_take]; show 1 ≤ min _ 5; omega
  · rw [List.length_take]; show min _ 5 ≤ 5; omega
theorem last_tab {X Y : List Wd} : L2.atI ((rowsL X Y (X.length + 1) (Y.length + 1)).map D.lst) (-1) = some (.lst (rowD X Y X.length (Y.length + 1))) ∧ L2.atI (rowD X Y X.length (Y.length + 1)) (-1) = some (.int (TT X Y X.length Y.length : Nat)) := by
  rw [rows_succ, List.map_append, List.map_cons, List.map_nil, row_succ]
  exact ⟨L2.atI_last _ _, L2.atI_last _ _⟩
theorem tt_sym {X Y : List Wd} : TT Y X Y.length X.length = TT X Y X.length Y.length := by
  unfold TT
  rw [sfx_all, sfx_all, ed_symm]
theorem ht_ix {h : Hs} {X Y : List Wd} : ixD (HT0 h X Y X.length) (.ref (h.length + 1)) (.int (-1)) = some (.ref (adr h.length X.length)) ∧ ixD (HT0 h X Y X.length) (.ref (adr h.length X.length)) (.int (-1)) = some (.int (TT X Y X.length Y.length : Nat)) := by
  have t1 := tail_top (h0 := h) (gs := rowsL X Y (X.length + 1) (Y.length + 1)) rows_ne
  rw [rows_len] at t1
  refine ⟨?_, ?_⟩
  · exact (ix_lst t1).trans refs_last
  · have t2 := tail_get (h0 := h) (gs := rowsL X Y (X.length + 1) (Y.length + 1)) (k := X.length) (g := rowD X Y X.length (Y.length + 1)) (by rw [rows_succ, List.getElem?_append_right (by rw [rows_len]; omega), rows_len]; simp)
    exact (ix_lst t2).trans last_tab.2
theorem ht_0 {h : Hs} {X Y : List Wd} : ixD (HT0 h X Y X.length) (.ref (h.length + 1)) (.int 0) = some (.ref h.length) ∧ (HT0 h X Y X.length)[h.length]? = some (.lst (rowD X Y 0 (Y.length + 1))) := by
  have t1 := tail_top (h0 := h) (gs := rowsL X Y (X.length + 1) (Y.length + 1)) rows_ne
  rw [rows_len] at t1
  refine ⟨?_, ?_⟩
  · exact (ix_lst t1).trans (L2.atI_nat (j := 0) (by simp [refsG, adr]))
  · exact tail_get (h0 := h) (gs := rowsL X Y (X.length + 1) (Y.length + 1)) (k := 0) (g := rowD X Y 0 (Y.length + 1)) (by simp [rowsL])
theorem alt_cut {N i : Nat} {h0 h : Hs} (hN : 3 ≤ N) (hb : RefB h0) {X Y : List Wd} (lx : X.length ≤ 6) (ly : Y.length ≤ 6) (p : PoolAt i h0 h) :
    ∃ v h', endCall .cut h (callN gl Fs N 15 [.ref i, tabD X Y] h) = .ok v h' ∧ PoolAt i h0 h' ∧ Fine 5 9000 v ∧ v ≠ tabD X Y := by
  obtain ⟨v, h1, e1, ⟨t, p1⟩, f1, n1⟩ := okR_inv (alt_ok hN (tab_rows lx ly) p)
  obtain ⟨c1, c2⟩ := cutA (v := v) hb p.len p.1 p1
  refine ⟨v, h1.take h0.length, ?_, c2, f1, n1⟩
  show endCall .cut h (callN gl Fs N 15 [.ref i, .lst ((rowsL X Y (X.length + 1) (Y.length + 1)).map .lst)] h) = _
  rw [e1, c1, frz_pl (pl_le (psz_pl f1.1) (by decide))]
  rfl
/-- the last statement -/
theorem fin_ok {N : Nat} (hN : 10 ≤ N) (H : Hs) : callN gl Fs N 8 [.lst [], .lst []] H = .ok (.ref (H.length + 1)) (HT0 H [] [] 0) ∧ cmpD (HT0 H [] [] 0) .Eq (.ref (H.length + 1)) (.lst [.lst [.int 0]]) = some true ∧ ∀ H', endCall .pure H' (callN gl Fs N 9 [.lst [.str [120]], .lst [], .lst [.lst [.int 0], .lst [.bl true]]] H') = .ok (.bl false) H' := by
  have t0 : tabD [] [] = .lst [.lst [.int 0]] := by
    show D.lst [D.lst [D.int (TT [] [] 0 0 : Nat)]] = _
    rw [tt_0 (by decide) (by decide) (.inl rfl)]
    rfl
  refine ⟨et_raw (X := []) (Y := []) (by omega) (fun _ h => by cases h) (by decide) (fun _ h => by cases h) (by decide), t0 ▸ ht_eq (X := []) (Y := []) (by decide) (by decide), fun H' => ?_⟩
  have := iet_ok (N := N) hN (H := H') (X := [[120]]) (Y := []) (fun w hw => by
    rw [List.mem_singleton.mp hw]
    exact w5_ok _ (by decide)) (by decide) (fun _ h => by cases h) (by decide) (v := .lst [.lst [.int 0], .lst [.bl true]]) rfl
  refine this.trans ?_
  congr 2
  refine decide_eq_false fun e => ?_
  have e : D.lst [.lst [.int 0], .lst [.bl true]] = .lst [.lst [.int (TT [[120]] [] 0 0 : Nat)], .lst [.int (TT [[120]] [] 1 0 : Nat)]] := e
  generalize (TT [[120]] [] 0 0 : Nat) = a at e
  generalize (TT [[120]] [] 1 0 : Nat) = b at e
  simp at e
theorem PoolAt_self {i : Nat} {h0 h : Hs} (p : PoolAt i h0 h) : PoolAt i h h := by
  obtain ⟨hi, a, b, h1, h2, rfl⟩ := p
  exact ⟨by simpa using hi, a, b, h1, h2, by simp⟩
theorem exp_end {N : Nat} {h : Hs} {X Y : List Wd} (hN : X.length + Y.length + 2 ≤ N) (lx : X.length ≤ 90) (ly : Y.length ≤ 90) : endCall .pure h (callN gl Fs N 14 [.lst (X.map .str), .lst (Y.map .str)] h) = .ok (tabD X Y) h := by
  obtain ⟨bs, e⟩ := exp_ok (h := h) hN lx ly
  rw [e, exp_frz]
  rfl
theorem repr_v {nd : Bool} {v : D} (f : Fine 5 9000 v) (H : Hs) : biD .repr nd [v] H = .ok (.str (rpS v)) H :=
  repr_ok (deep_rG f.2.1 (by decide)) f.2.1 (Nat.le_trans f.2.2 (by unfold lim; decide))
theorem law_gen (ns : List Int) (hl : ns.length ≤ 63) (h0 : Hs) (hb0 : RefB h0) : okR (callN gl Fs 60 16 [.scr ns] h0) fun v _ => v = .bl true := by
  rw [c_16 59]
  refine okR_fin (okQ_cons (okQ_mono (rounds_ok (N := 10) (by decide) 9 RefB rfl hb0 ?_) ?_))
  rotate_left
  · rintro F sl h ⟨rfl, ⟨l, rfl, _⟩, _⟩
    simp only [nx_nx]
    obtain ⟨f1, f2, f3⟩ := fin_ok (N := 59) (by decide) h
    simp (config := {implicitDefEqProofs := false}) (disch := first | assumption | exact get_app_self | exact gA20 | exact gA21 | exact gA30 | exact gA31 | exact gA32 | omega | (simp only [evL0]; omega) | (simp only [evP0]; done)) only [evB0, evB1, evB2, evB3, evB4, evB5, evB6, evB7, evEs, evO, evC, evI, asgT, asgTs, lstOf, wipeS, lstV, seqV, if_true, if_false, eq_self, ne_eq, evSs, f1, f2, f3, List.isEmpty_nil, List.isEmpty_cons, Nat.reduceBEq, Int.reduceBEq, String.reduceBEq, String.reduceEq, Nat.reduceEqDiff, reduceCtorEq, Int.reduceNeg, Int.reduceLT, Int.reduceLE, Int.reduceEq, Int.reduceAdd, Int.reduceSub, Nat.reduceLT, Nat.reduceLeDiff, Nat.reduceAdd, Nat.reduceSub, Nat.reduceEqDiff]
  · intro k hk l h hl hb
    match l, hl with
    | [s2, s3, s4, s5, s6, s7, s8, s9, s10], _ => ?_
    obtain ⟨_, h1, e1, rfl, p1, nd, hnd⟩ := okR_inv (newpool_ok (G := gl) (Fs := Fs) (N := 59) (f := 10) (h := h) (ns := ns) (k := k) (by decide) rfl (by omega))
    have b1 : RefB h1 := fun x hx => by
      obtain ⟨a, b, _, _, g⟩ := p1.get
      rw [hnd] at hx g ⊢
      rw [get_last] at g
      rcases List.mem_append.mp hx with hx | hx
      · exact ref_up (by simp) (hb x hx)
      · rw [List.mem_singleton.mp hx, Option.some.inj g]
        rfl
    refine okQ_cons ?_
    simp (config := {implicitDefEqProofs := false}) (disch := first | assumption | exact get_app_self | exact gA20 | exact gA21 | exact gA30 | exact gA31 | exact gA32 | omega | (simp only [evL0]; omega) | (simp only [evP0]; done)) only [evB0, evB1, evB2, evB3, evB4, evB5, evB6, evB7, evEs, evO, evC, evI, asgT, asgTs, lstOf, wipeS, lstV, seqV, if_true, if_false, eq_self, ne_eq, e1, List.isEmpty_nil, List.isEmpty_cons, Nat.reduceBEq, Int.reduceBEq, String.reduceBEq, String.reduceEq, Nat.reduceEqDiff, reduceCtorEq, Int.reduceNeg, Int.reduceLT, Int.reduceLE, Int.reduceEq, Int.reduceAdd, Int.reduceSub, Nat.reduceLT, Nat.reduceLeDiff, Nat.reduceAdd, Nat.reduceSub, Nat.reduceEqDiff]
    obtain ⟨_, h2, e2, p2, d2, rfl, d20, d21⟩ := okR_inv (drawA (N := 59) (m := 4) (by decide) p1 (by decide) (by decide))
    obtain ⟨its, ct, i5, i1, i6⟩ := cut_its d20 d21
    simp only [W5, List.map_cons, List.map_nil] at ct
    refine okQ_cons ?_
    simp (config := {implicitDefEqProofs := false}) (disch := first | assumption | exact get_app_self | exact gA20 | exact gA21 | exact gA30 | exact gA31 | exact gA32 | omega | (simp only [evL0]; omega) | (simp only [evP0]; done)) only [evB0, evB1, evB2, evB3, evB4, evB5, evB6, evB7, evEs, evO, evC, evI, asgT, asgTs, lstOf, wipeS, lstV, seqV, if_true, if_false, eq_self, ne_eq, e2, ct, List.isEmpty_nil, List.isEmpty_cons, Nat.reduceBEq, Int.reduceBEq, String.reduceBEq, String.reduceEq, Nat.reduceEqDiff, reduceCtorEq, Int.reduceNeg, Int.reduceLT, Int.reduceLE, Int.reduceEq, Int.reduceAdd, Int.reduceSub, Nat.reduceLT, Nat.reduceLeDiff, Nat.reduceAdd, Nat.reduceSub, Nat.reduceEqDiff]
    obtain ⟨_, h3, e3, p3, d3, rfl, d30, d31⟩ := okR_inv (drawA (N := 59) (m := 7) (by decide) p2 (by decide) (by decide))
    refine okQ_cons ?_
    simp (config := {implicitDefEqProofs := false}) (disch := first | assumption | exact get_app_self | exact gA20 | exact gA21 | exact gA30 | exact gA31 | exact gA32 | omega | (simp only [evL0]; omega) | (simp only [evP0]; done)) only [evB0, evB1, evB2, evB3, evB4, evB5, evB6, evB7, evEs, evO, evC, evI, asgT, asgTs, lstOf, wipeS, lstV, seqV, if_true, if_false, eq_self, ne_eq, e3, length_range, show (-1000000 : Int) ≤ 0 ∧ (0 : Int) ≤ 1000000 ∧ -1000000 ≤ d3 ∧ d3 ≤ 1000000 by omega, show (d3 - 0).toNat < lim by unfold lim; omega, List.isEmpty_nil, List.isEmpty_cons, Nat.reduceBEq, Int.reduceBEq, String.reduceBEq, String.reduceEq, Nat.reduceEqDiff, reduceCtorEq, Int.reduceNeg, Int.reduceLT, Int.reduceLE, Int.reduceEq, Int.reduceAdd, Int.reduceSub, Nat.reduceLT, Nat.reduceLeDiff, Nat.reduceAdd, Nat.reduceSub, Nat.reduceEqDiff]
    repeat (first | with_reducible refine okQ_bind ?_ | with_reducible refine okR_q ?_ | with_reducible refine okR_bind ?_ | with_reducible refine okR_nox ?_)
    rw [show d3 - 0 = d3 by omega]
    refine okR_mono (lines_ok (N := 59) (by decide) p3 i5 i1 i6 d30 d31) ?_
    rintro _ h4 ⟨p4, X, rfl, hX, lX⟩
    simp (config := {implicitDefEqProofs := false}) (disch := first | assumption | exact get_app_self | exact gA20 | exact gA21 | exact gA30 | exact gA31 | exact gA32 | omega | (simp only [evL0]; omega) | (simp only [evP0]; done)) only [evB0, evB1, evB2, evB3, evB4, evB5, evB6, evB7, evEs, evO, evC, evI, asgT, asgTs, lstOf, wipeS, lstV, seqV, if_true, if_false, eq_self, ne_eq, List.isEmpty_nil, List.isEmpty_cons, Nat.reduceBEq, Int.reduceBEq, String.reduceBEq, String.reduceEq, Nat.reduceEqDiff, reduceCtorEq, Int.reduceNeg, Int.reduceLT, Int.reduceLE, Int.reduceEq, Int.reduceAdd, Int.reduceSub, Nat.reduceLT, Nat.reduceLeDiff, Nat.reduceAdd, Nat.reduceSub, Nat.reduceEqDiff]
    obtain ⟨_, h5, e5, p5, d5, rfl, d50, d51⟩ := okR_inv (drawA (N := 59) (m := 7) (by decide) p4 (by decide) (by decide))
    refine okQ_cons ?_
    generalize hA : D.lst (X.map D.str) = A
    simp (config := {implicitDefEqProofs := false}) (disch := first | assumption | exact get_app_self | exact gA20 | exact gA21 | exact gA30 | exact gA31 | exact gA32 | omega | (simp only [evL0]; omega) | (simp only [evP0]; done)) only [evB0, evB1, evB2, evB3, evB4, evB5, evB6, evB7, evEs, evO, evC, evI, asgT, asgTs, lstOf, wipeS, lstV, seqV, if_true, if_false, eq_self, ne_eq, e5, length_range, show (-1000000 : Int) ≤ 0 ∧ (0 : Int) ≤ 1000000 ∧ -1000000 ≤ d5 ∧ d5 ≤ 1000000 by omega, show (d5 - 0).toNat < lim by unfold lim; omega, List.isEmpty_nil, List.isEmpty_cons, Nat.reduceBEq, Int.reduceBEq, String.reduceBEq, String.reduceEq, Nat.reduceEqDiff, reduceCtorEq, Int.reduceNeg, Int.reduceLT, Int.reduceLE, Int.reduceEq, Int.reduceAdd, Int.reduceSub, Nat.reduceLT, Nat.reduceLeDiff, Nat.reduceAdd, Nat.reduceSub, Nat.reduceEqDiff]
    repeat (first | with_reducible refine okQ_bind ?_ | with_reducible refine okR_q ?_ | with_reducible refine okR_bind ?_ | with_reducible refine okR_nox ?_)
    rw [show d5 - 0 = d5 by omega]
    refine okR_mono (lines_ok (N := 59) (by decide) p5 i5 i1 i6 d50 d51) ?_
    rintro _ H ⟨p6, Y, rfl, hY, lY⟩
    generalize hB : D.lst (Y.map D.str) = B
    simp (config := {implicitDefEqProofs := false}) (disch := first | assumption | exact get_app_self | exact gA20 | exact gA21 | exact gA30 | exact gA31 | exact gA32 | omega | (simp only [evL0]; omega) | (simp only [evP0]; done)) only [evB0, evB1, evB2, evB3, evB4, evB5, evB6, evB7, evEs, evO, evC, evI, asgT, asgTs, lstOf, wipeS, lstV, seqV, if_true, if_false, eq_self, ne_eq, List.isEmpty_nil, List.isEmpty_cons, Nat.reduceBEq, Int.reduceBEq, String.reduceBEq, String.reduceEq, Nat.reduceEqDiff, reduceCtorEq, Int.reduceNeg, Int.reduceLT, Int.reduceLE, Int.reduceEq, Int.reduceAdd, Int.reduceSub, Nat.reduceLT, Nat.reduceLeDiff, Nat.reduceAdd, Nat.reduceSub, Nat.reduceEqDiff]
    have bH := refB_pool b1 p6
    have pH := PoolAt_self p6
    have ex := exp_end (N := 59) (h := H) (X := X) (Y := Y) (by omega) (by omega) (by omega)
    have er := fun H => et_raw (N := 59) (h := H) (by decide) hX lX hY lY
    have er2 := fun H => et_raw (N := 59) (h := H) (by decide) hY lY hX lX
    have ie := fun (H : Hs) (v : D) (hv : psz 5 v = true) => iet_ok (N := 59) (by decide) (H := H) hX lX hY lY hv
    have tz := tab_psz lX lY
    have ie1 := fun (H : Hs) => ie H _ tz
    have dt : decide (tabD X Y = tabD X Y) = true := decide_eq_true rfl
    rw [dt] at ie1
    have ne1 := fun (H : Hs) => ht_ne (h := H) lX lY
    have l1 := last_tab (X := X) (Y := Y)
    have ts := tt_sym (X := X) (Y := Y)
    have l2 := fun (H : Hs) => ht_ix (h := H) (X := Y) (Y := X)
    rw [ts] at l2
    have tI : ∀ H, ixD H (tabD X Y) (.int (-1)) = some (.lst (rowD X Y X.length (Y.length + 1))) := fun H => l1.1
    have tJ : ∀ H, ixD H (.lst (rowD X Y X.length (Y.length + 1))) (.int (-1)) = some (.int (TT X Y X.length Y.length : Nat)) := fun H => l1.2
    have ac := fun (H0 H : Hs) (hb : RefB H0) (p : PoolAt h.length H0 H) => alt_cut (N := 59) (by decide) hb lX lY p
    rw [hA, hB] at ex
    simp only [hA, hB] at er er2 ie ie1
    generalize hT : tabD X Y = T at *
    refine okQ_cons ?_
    simp (config := {implicitDefEqProofs := false}) (disch := first | assumption | exact get_app_self | exact gA20 | exact gA21 | exact gA30 | exact gA31 | exact gA32 | omega | (simp only [evL0]; omega) | (simp only [evP0]; done)) only [evB0, evB1, evB2, evB3, evB4, evB5, evB6, evB7, evEs, evO, evC, evI, asgT, asgTs, lstOf, wipeS, lstV, seqV, if_true, if_false, eq_self, ne_eq, ex, List.isEmpty_nil, List.isEmpty_cons, Nat.reduceBEq, Int.reduceBEq, String.reduceBEq, String.reduceEq, Nat.reduceEqDiff, reduceCtorEq, Int.reduceNeg, Int.reduceLT, Int.reduceLE, Int.reduceEq, Int.reduceAdd, Int.reduceSub, Nat.reduceLT, Nat.reduceLeDiff, Nat.reduceAdd, Nat.reduceSub, Nat.reduceEqDiff]
    refine okQ_cons ?_
    simp (config := {implicitDefEqProofs := false}) (disch := first | assumption | exact get_app_self | exact gA20 | exact gA21 | exact gA30 | exact gA31 | exact gA32 | omega | (simp only [evL0]; omega) | (simp only [evP0]; done)) only [evB0, evB1, evB2, evB3, evB4, evB5, evB6, evB7, evEs, evO, evC, evI, asgT, asgTs, lstOf, wipeS, lstV, seqV, if_true, if_false, eq_self, ne_eq, er, List.isEmpty_nil, List.isEmpty_cons, Nat.reduceBEq, Int.reduceBEq, String.reduceBEq, String.reduceEq, Nat.reduceEqDiff, reduceCtorEq, Int.reduceNeg, Int.reduceLT, Int.reduceLE, Int.reduceEq, Int.reduceAdd, Int.reduceSub, Nat.reduceLT, Nat.reduceLeDiff, Nat.reduceAdd, Nat.reduceSub, Nat.reduceEqDiff]
    refine okQ_cons ?_
    simp (config := {implicitDefEqProofs := false}) (disch := first | assumption | exact get_app_self | exact gA20 | exact gA21 | exact gA30 | exact gA31 | exact gA32 | omega | (simp only [evL0]; omega) | (simp only [evP0]; done)) only [evB0, evB1, evB2, evB3, evB4, evB5, evB6, evB7, evEs, evO, evC, evI, asgT, asgTs, lstOf, wipeS, lstV, seqV, if_true, if_false, eq_self, ne_eq, ne1, ie1, List.isEmpty_nil, List.isEmpty_cons, Nat.reduceBEq, Int.reduceBEq, String.reduceBEq, String.reduceEq, Nat.reduceEqDiff, reduceCtorEq, Int.reduceNeg, Int.reduceLT, Int.reduceLE, Int.reduceEq, Int.reduceAdd, Int.reduceSub, Nat.reduceLT, Nat.reduceLeDiff, Nat.reduceAdd, Nat.reduceSub, Nat.reduceEqDiff]
    obtain ⟨z1, z2⟩ := ht_0 (h := H) (X := X) (Y := Y)
    have ap : mtD .append (.ref H.length) [.non] (HT0 H X Y X.length) = .ok .non ((HT0 H X Y X.length).set H.length (.lst (rowD X Y 0 (Y.length + 1) ++ [.non]))) := m_append z2 (by rw [row_len]; unfold lim; omega)
    have m1 : mtTy (HT0 H X Y X.length) .append (.ref H.length) = true := n_mtA z2
    have pI : PoolAt h.length (HT0 H X Y X.length) (HT0 H X Y X.length) := pH.app
    have bI : RefB (HT0 H X Y X.length) := refB_ht bH
    have hne : H.length ≠ h.length := by
      have := pH.1
      omega
    have bJ : RefB ((HT0 H X Y X.length).set H.length (.lst (rowD X Y 0 (Y.length + 1) ++ [.non]))) := refB_set bI (refBs_all fun z hz => by
      rcases List.mem_append.mp hz with hz | hz
      · obtain ⟨k, _, rfl⟩ := List.mem_map.mp hz
        rfl
      · rw [List.mem_singleton.mp hz]
        rfl)
    have pJ := pI.setO (j := H.length) (nd := .lst (rowD X Y 0 (Y.length + 1) ++ [.non])) hne
    refine okQ_cons ?_
    simp (config := {implicitDefEqProofs := false}) (disch := first | assumption | exact get_app_self | exact gA20 | exact gA21 | exact gA30 | exact gA31 | exact gA32 | omega | (simp only [evL0]; omega) | (simp only [evP0]; done)) only [evB0, evB1, evB2, evB3, evB4, evB5, evB6, evB7, evEs, evO, evC, evI, asgT, asgTs, lstOf, wipeS, lstV, seqV, if_true, if_false, eq_self, ne_eq, z1, m1, ap, List.isEmpty_nil, List.isEmpty_cons, Nat.reduceBEq, Int.reduceBEq, String.reduceBEq, String.reduceEq, Nat.reduceEqDiff, reduceCtorEq, Int.reduceNeg, Int.reduceLT, Int.reduceLE, Int.reduceEq, Int.reduceAdd, Int.reduceSub, Nat.reduceLT, Nat.reduceLeDiff, Nat.reduceAdd, Nat.reduceSub, Nat.reduceEqDiff]
    generalize (HT0 H X Y X.length).set H.length (.lst (rowD X Y 0 (Y.length + 1) ++ [.non])) = H2 at *
    refine okQ_cons ?_
    simp (config := {implicitDefEqProofs := false}) (disch := first | assumption | exact get_app_self | exact gA20 | exact gA21 | exact gA30 | exact gA31 | exact gA32 | omega | (simp only [evL0]; omega) | (simp only [evP0]; done)) only [evB0, evB1, evB2, evB3, evB4, evB5, evB6, evB7, evEs, evO, evC, evI, asgT, asgTs, lstOf, wipeS, lstV, seqV, if_true, if_false, eq_self, ne_eq, er, ne1, List.isEmpty_nil, List.isEmpty_cons, Nat.reduceBEq, Int.reduceBEq, String.reduceBEq, String.reduceEq, Nat.reduceEqDiff, reduceCtorEq, Int.reduceNeg, Int.reduceLT, Int.reduceLE, Int.reduceEq, Int.reduceAdd, Int.reduceSub, Nat.reduceLT, Nat.reduceLeDiff, Nat.reduceAdd, Nat.reduceSub, Nat.reduceEqDiff]
    have pK : PoolAt h.length (HT0 H2 X Y X.length) (HT0 H2 X Y X.length) := pJ.app
    have bK : RefB (HT0 H2 X Y X.length) := refB_ht bJ
    generalize HT0 H2 X Y X.length = H3 at *
    refine okQ_cons ?_
    simp (config := {implicitDefEqProofs := false}) (disch := first | assumption | exact get_app_self | exact gA20 | exact gA21 | exact gA30 | exact gA31 | exact gA32 | omega | (simp only [evL0]; omega) | (simp only [evP0]; done)) only [evB0, evB1, evB2, evB3, evB4, evB5, evB6, evB7, evEs, evO, evC, evI, asgT, asgTs, lstOf, wipeS, lstV, seqV, if_true, if_false, eq_self, ne_eq, er2, (l2 H3).1, (l2 H3).2, tI, tJ, List.isEmpty_nil, List.isEmpty_cons, Nat.reduceBEq, Int.reduceBEq, String.reduceBEq, String.reduceEq, Nat.reduceEqDiff, reduceCtorEq, Int.reduceNeg, Int.reduceLT, Int.reduceLE, Int.reduceEq, Int.reduceAdd, Int.reduceSub, Nat.reduceLT, Nat.reduceLeDiff, Nat.reduceAdd, Nat.reduceSub, Nat.reduceEqDiff]
    have pL : PoolAt h.length (HT0 H3 Y X Y.length) (HT0 H3 Y X Y.length) := pK.app
    have bL : RefB (HT0 H3 Y X Y.length) := refB_ht bK
    generalize HT0 H3 Y X Y.length = H4 at *
    refine okQ_cons ?_
    simp (config := {implicitDefEqProofs := false}) (disch := first | assumption | exact get_app_self | exact gA20 | exact gA21 | exact gA30 | exact gA31 | exact gA32 | omega | (simp only [evL0]; omega) | (simp only [evP0]; done)) only [evB0, evB1, evB2, evB3, evB4, evB5, evB6, evB7, evEs, evO, evC, evI, asgT, asgTs, lstOf, wipeS, lstV, seqV, if_true, if_false, eq_self, ne_eq, List.isEmpty_nil, List.isEmpty_cons, Nat.reduceBEq, Int.reduceBEq, String.reduceBEq, String.reduceEq, Nat.reduceEqDiff, reduceCtorEq, Int.reduceNeg, Int.reduceLT, Int.reduceLE, Int.reduceEq, Int.reduceAdd, Int.reduceSub, Nat.reduceLT, Nat.reduceLeDiff, Nat.reduceAdd, Nat.reduceSub, Nat.reduceEqDiff]
    refine okQ_mono (forL_rng (fun j sl H' => ∃ (a8 a9 a10 : Option D), sl = [some (.scr ns), some (.int k), some (.ref h.length), some (.lst (its.map .str)), some A, some B, some T, some (.ref (H.length + 1)), a8, a9, a10] ∧ PoolAt h.length H4 H') (n := 6) (fun _ _ _ _ => rfl) ?_ ⟨_, _, _, rfl, pL⟩) ?_
    · rintro j hj sl H' ⟨a8, a9, a10, rfl, p⟩
      obtain ⟨v, H5, e5, p5, f5, n5⟩ := ac H4 H' bL p
      have ie2 := fun (H : Hs) => ie H v f5.1
      rw [decide_eq_false n5] at ie2
      have rp := fun nd H => repr_v (nd := nd) f5 H
      unfold forF
      simp (config := {implicitDefEqProofs := false}) (disch := first | assumption | exact get_app_self | exact gA20 | exact gA21 | exact gA30 | exact gA31 | exact gA32 | omega | (simp only [evL0]; omega) | (simp only [evP0]; done)) only [evB0, evB1, evB2, evB3, evB4, evB5, evB6, evB7, evEs, evO, evC, evI, asgT, asgTs, lstOf, wipeS, lstV, seqV, if_true, if_false, eq_self, ne_eq, List.isEmpty_nil, List.isEmpty_cons, Nat.reduceBEq, Int.reduceBEq, String.reduceBEq, String.reduceEq, Nat.reduceEqDiff, reduceCtorEq, Int.reduceNeg, Int.reduceLT, Int.reduceLE, Int.reduceEq, Int.reduceAdd, Int.reduceSub, Nat.reduceLT, Nat.reduceLeDiff, Nat.reduceAdd, Nat.reduceSub, Nat.reduceEqDiff]
      refine okQ_cons ?_
      simp (config := {implicitDefEqProofs := false}) (disch := first | assumption | exact get_app_self | exact gA20 | exact gA21 | exact gA30 | exact gA31 | exact gA32 | omega | (simp only [evL0]; omega) | (simp only [evP0]; done)) only [evB0, evB1, evB2, evB3, evB4, evB5, evB6, evB7, evEs, evO, evC, evI, asgT, asgTs, lstOf, wipeS, lstV, seqV, if_true, if_false, eq_self, ne_eq, e5, List.isEmpty_nil, List.isEmpty_cons, Nat.reduceBEq, Int.reduceBEq, String.reduceBEq, String.reduceEq, Nat.reduceEqDiff, reduceCtorEq, Int.reduceNeg, Int.reduceLT, Int.reduceLE, Int.reduceEq, Int.reduceAdd, Int.reduceSub, Nat.reduceLT, Nat.reduceLeDiff, Nat.reduceAdd, Nat.reduceSub, Nat.reduceEqDiff]
      refine okQ_cons ?_
      simp (config := {implicitDefEqProofs := false}) (disch := first | assumption | exact get_app_self | exact gA20 | exact gA21 | exact gA30 | exact gA31 | exact gA32 | omega | (simp only [evL0]; omega) | (simp only [evP0]; done)) only [evB0, evB1, evB2, evB3, evB4, evB5, evB6, evB7, evEs, evO, evC, evI, asgT, asgTs, lstOf, wipeS, lstV, seqV, if_true, if_false, eq_self, ne_eq, rp, List.isEmpty_nil, List.isEmpty_cons, Nat.reduceBEq, Int.reduceBEq, String.reduceBEq, String.reduceEq, Nat.reduceEqDiff, reduceCtorEq, Int.reduceNeg, Int.reduceLT, Int.reduceLE, Int.reduceEq, Int.reduceAdd, Int.reduceSub, Nat.reduceLT, Nat.reduceLeDiff, Nat.reduceAdd, Nat.reduceSub, Nat.reduceEqDiff]
      refine okQ_cons ?_
      simp (config := {implicitDefEqProofs := false}) (disch := first | assumption | exact get_app_self | exact gA20 | exact gA21 | exact gA30 | exact gA31 | exact gA32 | omega | (simp only [evL0]; omega) | (simp only [evP0]; done)) only [evB0, evB1, evB2, evB3, evB4, evB5, evB6, evB7, evEs, evO, evC, evI, asgT, asgTs, lstOf, wipeS, lstV, seqV, if_true, if_false, eq_self, ne_eq, ie2, List.isEmpty_nil, List.isEmpty_cons, Nat.reduceBEq, Int.reduceBEq, String.reduceBEq, String.reduceEq, Nat.reduceEqDiff, reduceCtorEq, Int.reduceNeg, Int.reduceLT, Int.reduceLE, Int.reduceEq, Int.reduceAdd, Int.reduceSub, Nat.reduceLT, Nat.reduceLeDiff, Nat.reduceAdd, Nat.reduceSub, Nat.reduceEqDiff]
      simp (config := {implicitDefEqProofs := false}) (disch := first | assumption | exact get_app_self | exact gA20 | exact gA21 | exact gA30 | exact gA31 | exact gA32 | omega | (simp only [evL0]; omega) | (simp only [evP0]; done)) only [evB0, evB1, evB2, evB3, evB4, evB5, evB6, evB7, evEs, evO, evC, evI, asgT, asgTs, lstOf, wipeS, lstV, seqV, if_true, if_false, eq_self, ne_eq, evSs, rp, List.isEmpty_nil, List.isEmpty_cons, Nat.reduceBEq, Int.reduceBEq, String.reduceBEq, String.reduceEq, Nat.reduceEqDiff, reduceCtorEq, Int.reduceNeg, Int.reduceLT, Int.reduceLE, Int.reduceEq, Int.reduceAdd, Int.reduceSub, Nat.reduceLT, Nat.reduceLeDiff, Nat.reduceAdd, Nat.reduceSub, Nat.reduceEqDiff]
      exact ⟨_, _, _, ⟨rfl, rfl, rfl⟩, p5⟩
    · rintro F sl H' ⟨rfl, a8, a9, a10, rfl, p⟩
      rw [nx_nx]
      simp (config := {implicitDefEqProofs := false}) (disch := first | assumption | exact get_app_self | exact gA20 | exact gA21 | exact gA30 | exact gA31 | exact gA32 | omega | (simp only [evL0]; omega) | (simp only [evP0]; done)) only [evB0, evB1, evB2, evB3, evB4, evB5, evB6, evB7, evEs, evO, evC, evI, asgT, asgTs, lstOf, wipeS, lstV, seqV, if_true, if_false, eq_self, ne_eq, evSs, List.isEmpty_nil, List.isEmpty_cons, Nat.reduceBEq, Int.reduceBEq, String.reduceBEq, String.reduceEq, Nat.reduceEqDiff, reduceCtorEq, Int.reduceNeg, Int.reduceLT, Int.reduceLE, Int.reduceEq, Int.reduceAdd, Int.reduceSub, Nat.reduceLT, Nat.reduceLeDiff, Nat.reduceAdd, Nat.reduceSub, Nat.reduceEqDiff]
      exact ⟨⟨_, rfl, rfl⟩, refB_pool bL p⟩
theorem law_gen2 (ns : List Int) (hl : ns.length ≤ 63) (h0 : Hs) (hb0 : RefB h0) : ∃ h, callN gl Fs 60 16 [.scr ns] h0 = .ok (.bl true) h := by
  obtain ⟨v, h, e, rfl⟩ := okR_inv (law_gen ns hl h0 hb0)
  exact ⟨h, e⟩
theorem rb_nil : RefB [] := fun nd h => by cases h
theorem law_true (ns : List Int) (hl : ns.length ≤ 63) : ∃ h, callN gl Fs 60 16 [.scr ns] [] = .ok (.bl true) h := law_gen2 ns hl [] rb_nil
end KX
open PySem PySem.W PySem.Calls PyProof.Rows
theorem PySem.Challenge.cw_amendedwords_k74_edit_tables_holds : PySem.Challenge.rw_amendedwords_k74_edit_tables.Holds := by
  w_on; o_law
  refine HandSHeadRun.head_any (r := OpenLaw.row PySem.Challenge.rw_amendedwords_k74_edit_tables) (q := view (OpenLaw.row PySem.Challenge.rw_amendedwords_k74_edit_tables).prog [29]) (H := KX.hk) (ob := KX.ob) (M := 4000) (loose := KX.loose) (d := HandSHeadRun.topDef (OpenLaw.row PySem.Challenge.rw_amendedwords_k74_edit_tables).prog 29) (kwd := []) KX.ob_eq
    (by kernel_rfl) (fun s => by kernel_rfl) KX.run (by kernel_rfl) (by kernel_rfl) (by kernel_rfl) (by rfl) (by first | assumption | decide +kernel) (by decide +kernel) ⟨rfl, rfl, rfl, rfl, rfl, by decide +kernel⟩ ?hw ?hc
  case hw => w_witness2
  case hc =>
    refine L2.MP.walk_mp (l := PySem.Challenge.rw_amendedwords_k74_edit_tables) (n := 63) (k := 63) (x := "_law_script") rfl (by decide) (by kernel_rfl) ⟨rfl, by decide, by decide⟩ (ec := fun K => L2.MP.ecOf KX.cf.exs K) (fl := L2.MP.flG KX.gl) (g := L2.MP.callN KX.gl KX.Fs 60 16) KX.law_true ?F
    intro w mg fa h Y G hmg0
    obtain ⟨K, XK, c, hx, ht⟩ := Y
    have hmg : mg ("law" : PySem.Str) = some (.ref fa) := by
      have e : (HandSHeadRun.topDef (OpenLaw.row PySem.Challenge.rw_amendedwords_k74_edit_tables).prog 29).name = ("law" : PySem.Str) := by kernel_rfl
      rw [← e]
      exact hmg0
    obtain ⟨fd, hb, hF⟩ := KX.facts (P := (PySem.Challenge.rw_amendedwords_k74_edit_tables).prog) (w := w) XK G hmg c hx ht
    exact ⟨K, fd, XK, hb, hF⟩
