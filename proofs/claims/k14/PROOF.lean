import PyProof.Rows.All
import Wide.All
import OpenK.AllK
import Wide.FinOn
import HandS.ForMost
import HandS.Walk
import HandS.Wide
import HandS.TupSets
import KE.KSortTupG
import HandS.TupMul
import HandS.TupAny
import HandS.SortInts
import HandS.IsInst
import HandS.More
import HandS.Conv
import HandS.TupLen
import HandS.RaiseMore
import HandS.WordsDict
import HandS.Small
import HandS.Exc
import HandS.ExcOwn
import HandS.WordsExc
import HandS.Flow
import HandS.HotCalls
import HandS.ExcIs
import HandS.ExcField
import HandS.ExcInit
import KE.KExcIs
import HandS.IterVal
import HandS.OwnIter
import KE.GoesMore
import KE.GoesEnum
import HandS.Zip
import KE.GoesZip
import HandS.Star
import HandS.SlotsOwn
import KE.KOpsOwn
import KE.KOwnIter
import HandS.Words
import HandS.Defaults
import KE.KStateDown
import Lean
import HandS.Ends
import HandS.Head0
import HandS.Head1
import HandS.Head2
import HandS.HeadEnd
import HandS.HeadHook1
import HandS.HeadHook2
import HandS.HeadHook3
import HandS.HeadHook4
import HandS.Codes
import KE.BitLaws
import PySem.Challenge.RW_skipsnought_k14_least_point_of_a_poly
set_option Elab.async false
set_option linter.all false
set_option maxRecDepth 100000
set_option maxHeartbeats 4000000
/-! VL: a small language of values. Its programs are the defs' bodies without places; its reading speaks of data alone, no heap. -/
namespace VL
open PySem

/-! ### data -/
inductive D where
  | non | bl (b : Bool) | int (i : Int) | str (s : Str) | tok
  | tup (ds : List D) | lst (ds : List D)
  | dicK (ks : List L2.Key) (ds : List D)
  | dicT (ks : List (List L2.Key)) (ds : List D)
  | obj (c : Nat) (fs : List D)
  | exn (c : Nat) (fs : List D)
  deriving Inhabited

/-- a local name's slot: nothing known; data that nobody changes any more; a list or dict of one's own -/
inductive Slot where
  | un | val (d : D) | own (d : D)
abbrev En := List Slot
/-- what an expression gives: data; a new list or dict; the own one of a slot -/
inductive R where
  | val (d : D) | tmp (d : D) | var (i : Nat) (d : D)
def R.d : R → D
  | .val d => d
  | .tmp d => d
  | .var _ d => d
/-- no part of it is an object -/
def D.scal : D → Bool
  | .non => true
  | .bl _ => true
  | .int _ => true
  | .str _ => true
  | _ => false
/-- a list or dict -/
def D.ownable : D → Bool
  | .lst _ => true
  | .dicK _ _ => true
  | .dicT _ _ => true
  | _ => false
mutual
/-- no list, dict, object in it -/
def D.lf : D → Bool
  | .non => true
  | .bl _ => true
  | .int _ => true
  | .str _ => true
  | .tup ds => D.lfs ds
  | _ => false
def D.lfs : List D → Bool
  | [] => true
  | d :: ds => d.lf && D.lfs ds
end
/-- an exception: its class, what it was made with -/
structure Exc where
  cls : Nat
  fs : List D

/-- what a def promises: its arguments by a witness, what it asks, what it hands back (own: a new list), what it raises -/
structure VSp where
  α : Type
  arg : α → List D
  pre : α → Prop
  post : α → Bool → D → Prop
  exc : α → Exc → Prop
@[irreducible] def VSp.run (s : VSp) (ds : List D) (K : Bool → D → Prop) (E : Exc → Prop) : Prop :=
  ∃ x : s.α, ds = s.arg x ∧ s.pre x ∧ (∀ o d, s.post x o d → K o d) ∧ ∀ e, s.exc x e → E e

/-! ### the language -/
inductive B where
  | len | abs | max | min | int | str | sum | any | all | sorted | list | tuple | bool | repr | range | set | dict
  deriving DecidableEq
/-- a class in isinstance -/
inductive Ty where
  | bi (n : String) | own (tab : List (Nat × Bool))
inductive M where
  | append | pop | extend | insert | index | count | get | join | upper | lower | split | startswith | replace | setdefault | items | keys | values | reverse | clear | sort | remove | partition | strip | isalpha | isdigit | isalnum
  deriving DecidableEq
mutual
inductive VE where
  | bad
  | var (i : Nat)
  | cst (d : D)
  | bin (op : Operator) (a b : VE)
  | neg (a : VE)
  | notE (a : VE)
  | cmp (op : CmpOp) (a b : VE)
  | chn (op op' : CmpOp) (a b c : VE)
  | andE (a b : VE)
  | orE (a b : VE)
  | ife (t : VC) (a b : VE)
  | tup (es : VEs)
  | lst (es : VEs)
  | ix (a i : VE)
  | sl (a : VE) (lo hi : VO)
  | fld (a : VE) (tab : List (Nat × Nat))
  | call (n : Nat) (es : VEs)
  | blt (b : B) (es : VEs)
  | isin (a : VE) (t : Ty)
  | met (m : M) (a : VE) (es : VEs)
  | comp (own : List Nat) (elt : VE) (g : VG) (it : VI) (ifs : VC)
  | lrg (a : VO) (b : VE)
  | dnew
  | fldO (a : VE) (c : Nat) (i : Nat)
  | mcl (c n : Nat) (a : VE) (es : VEs)
  | binO (op : Operator) (c n : Nat) (a b : VE)
  | cmpO (neg : Bool) (c n : Nat) (a b : VE)
  | negO (c n : Nat) (a : VE)
  | lenO (c n : Nat) (a : VE)
  | lstO (c f : Nat) (a : VE)
  | calO (c n : Nat) (i : Nat) (es : VEs)
inductive VC where
  | tv (e : VE)
  | tnot (t : VC)
  | tand (t u : VC)
  | tor (t u : VC)
  | tyes
inductive VEs where
  | nil
  | cons (e : VE) (es : VEs)
inductive VO where
  | none
  | some (e : VE)
inductive VI where
  | it (e : VE)
  | rng (es : VEs)
  | enum (e : VE)
  | zip (a b : VE)
  | zip3 (a b c : VE)
  | itO (c f : Nat) (e : VE)
inductive VG where
  | bad
  | nm (i : Nat)
  | tp (gs : VGs)
inductive VGs where
  | nil
  | cons (g : VG) (gs : VGs)
end
mutual
inductive VS where
  | bad
  | pass
  | brk
  | cnt
  | ret (e : VE)
  | retN
  | ex (e : VE)
  | asg (g : VG) (e : VE)
  | par (i j : Nat) (a b : VE)
  | setix (o i v : VE)
  | aug (i : Nat) (op : Operator) (e : VE)
  | augix (o i : VE) (op : Operator) (e : VE)
  | ifS (t : VC) (a b : VSs)
  | forS (g : VG) (it : VI) (b : VSs)
  | whl (t : VC) (b : VSs)
  | rse (c n : Nat) (es : VEs)
  | tryA (i : Nat) (tab : List (Nat × Bool)) (b su : VSs)
  | tryO (tab : List (Nat × Bool)) (b su : VSs)
inductive VSs where
  | nil
  | cons (s : VS) (ss : VSs)
end

def VEs.len : VEs → Nat
  | .nil => 0
  | .cons _ es => es.len + 1
def VGs.len : VGs → Nat
  | .nil => 0
  | .cons _ gs => gs.len + 1
mutual
def VG.slots : VG → List Nat
  | .bad => []
  | .nm i => [i]
  | .tp gs => gs.slots
def VGs.slots : VGs → List Nat
  | .nil => []
  | .cons g gs => g.slots ++ gs.slots
end
/-! ### values -/
/-- the most items of a list -/
def lim : Nat := 1000000
def eqS : D → D → Bool
  | .non, .non => true
  | .bl a, .bl b => a == b
  | .int a, .int b => decide (a = b)
  | .str a, .str b => decide (a = b)
  | _, _ => false
/-- a key that is an int or a text -/
def keyOf : D → Option L2.Key
  | .int i => some (.inl i)
  | .str s => some (.inr s)
  | _ => none
def keysOf : List D → Option (List L2.Key)
  | [] => some []
  | d :: ds => match keyOf d, keysOf ds with
    | some k, some ks => some (k :: ks)
    | _, _ => none
def keyD : L2.Key → D
  | .inl i => .int i
  | .inr s => .str s
section
variable {κ α : Type} [DecidableEq κ]
/-- what stands at a key -/
def dget : List κ → List α → κ → Option α
  | k' :: ks, d :: ds, k => if k' = k then some d else dget ks ds k
  | _, _, _ => none
def kput (ks : List κ) (k : κ) : List κ := if k ∈ ks then ks else ks ++ [k]
def aset1 : List κ → List α → κ → α → List α
  | k' :: ks, d :: ds, k, x => (if k' = k then x else d) :: aset1 ks ds k x
  | _, _, _, _ => []
def aset (ks : List κ) (ds : List α) (k : κ) (x : α) : List α := if k ∈ ks then aset1 ks ds k x else ds ++ [x]
end
/-! data that == goes through: no tokens, objects, dicts -/
mutual
def D.py : D → Option PyData
  | .non => some .none
  | .bl b => some (.bool b)
  | .int i => some (.int i)
  | .str s => some (.str s)
  | .tok => none
  | .tup ds => (D.pys ds).map .tuple
  | .lst ds => (D.pys ds).map .list
  | .dicK _ _ => none
  | .dicT _ _ => none
  | .obj _ _ => none
  | .exn _ _ => none
def D.pys : List D → Option (List PyData)
  | [] => some []
  | d :: ds => match D.py d, D.pys ds with
    | some x, some xs => some (x :: xs)
    | _, _ => none
end
def vEq (x y : D) (K : Bool → Prop) : Prop :=
  match x, y with
  | .non, .non => K true
  | .bl a, .bl b => K (a == b)
  | .int a, .int b => K (decide (a = b))
  | .str a, .str b => K (decide (a = b))
  | x, y => ∃ p q, x.py = some p ∧ y.py = some q ∧ SeqAt.shaped p = true ∧ SeqAt.shaped q = true ∧ K (PyData.eqv p q)
def D.flat : D → Bool
  | .non => true
  | .bl _ => true
  | .int _ => true
  | .str _ => true
  | _ => false
/-- y == x of two flat ones: True and 1 are equal -/
def eqF : D → D → Bool
  | .non, .non => true
  | .bl a, .bl b => a == b
  | .int a, .int b => a == b
  | .str a, .str b => a == b
  | .bl a, .int b => (if a then 1 else 0) == b
  | .int a, .bl b => a == (if b then 1 else 0)
  | _, _ => false
def inF (x : D) (ys : List D) : Bool := ys.any fun y => eqF y x
def vIn (x y : D) (K : Bool → Prop) : Prop :=
  match x, y with
  | .str a, .str b => K (!(Builtin.Str.occurrences b a 0 b.length 1).isEmpty)
  | x, .lst ys => x.flat = true ∧ ys.all D.flat = true ∧ K (inF x ys)
  | x, .tup ys => x.flat = true ∧ ys.all D.flat = true ∧ K (inF x ys)
  | x, .dicK ks ds => ∃ k, keyOf x = some k ∧ K (dget ks ds k).isSome
  | .tup xs, .dicT ks ds => ∃ k, keysOf xs = some k ∧ K (dget ks ds k).isSome
  | _, _ => False
def vCmp (op : CmpOp) (x y : D) (K : Bool → Prop) : Prop :=
  match op with
  | .Eq => vEq x y K
  | .NotEq => vEq x y fun b => K (!b)
  | .Lt => (match x, y with
    | .int a, .int b => K (decide (a < b))
    | _, _ => False)
  | .LtE => (match x, y with
    | .int a, .int b => K (decide (a ≤ b))
    | _, _ => False)
  | .Gt => (match x, y with
    | .int a, .int b => K (decide (b < a))
    | _, _ => False)
  | .GtE => (match x, y with
    | .int a, .int b => K (decide (b ≤ a))
    | _, _ => False)
  | .Is => (match y with
    | .non => (match x with
      | .non => K true
      | _ => K false)
    | _ => False)
  | .IsNot => (match y with
    | .non => (match x with
      | .non => K false
      | _ => K true)
    | _ => False)
  | .In => vIn x y K
  | .NotIn => vIn x y fun b => K (!b)
def truth (x : D) (K : Bool → Prop) : Prop :=
  match x with
  | .non => K false
  | .bl b => K b
  | .int i => K (!decide (i = 0))
  | .str s => s.length ≤ lim ∧ K (!decide (s.length = 0))
  | .tup ds => K (!ds.isEmpty)
  | .lst ds => K (!ds.isEmpty)
  | .dicK ks _ => K (!ks.isEmpty)
  | _ => False
/-- i * j may be asked: not too long together, or one of them short -/
def MulOk (i j : Int) : Prop := i.natAbs.log2 + j.natAbs.log2 < 1000000 ∨ Builtin.Int.intBits i ≤ 64 ∨ Builtin.Int.intBits j ≤ 64
def vBin (op : Operator) (x y : D) (K : R → Prop) : Prop :=
  match op, x, y with
  | .Add, .int i, .int j => K (.val (.int (i + j)))
  | .Sub, .int i, .int j => K (.val (.int (i - j)))
  | .Mult, .int i, .int j => MulOk i j ∧ K (.val (.int (i * j)))
  | .FloorDiv, .int i, .int j => (0 < j ∧ j.natAbs.log2 < 9000) ∧ K (.val (.int (i / j)))
  | .Mod, .int i, .int j => 0 < j ∧ K (.val (.int (i % j)))
  | .Pow, .int i, .int j => (0 ≤ j ∧ (Builtin.Int.intBits i : Int) * j ≤ 2 ^ 27) ∧ K (.val (.int (i ^ j.toNat)))
  | .LShift, .int i, .int j => (0 ≤ j ∧ (Builtin.Int.intBits i : Int) + j ≤ 2 ^ 27) ∧ K (.val (.int (i * 2 ^ j.toNat)))
  | .RShift, .int i, .int j => 0 ≤ j ∧ K (.val (.int (i / 2 ^ j.toNat)))
  | .BitAnd, .int i, .int j => K (.val (.int (Builtin.bitAnd i j)))
  | .BitOr, .int i, .int j => K (.val (.int (Builtin.bitOr i j)))
  | .Add, .str a, .str b => a.length + b.length ≤ lim ∧ K (.val (.str (a ++ b)))
  | .Add, .tup a, .tup b => a.length + b.length ≤ lim ∧ K (.val (.tup (a ++ b)))
  | .Add, .lst a, .lst b => a.length + b.length ≤ lim ∧ K (.tmp (.lst (a ++ b)))
  | .Mult, .tup a, .int k => (a ≠ [] ∧ -(2 ^ 63) ≤ k ∧ k ≤ 1000 ∧ a.length ≤ 1000) ∧ K (.val (.tup (List.replicate k.toNat a).flatten))
  | .Mult, .lst a, .int k => (-(2 ^ 63) ≤ k ∧ k < 2 ^ 63 ∧ a.length * k.toNat ≤ lim) ∧ K (.tmp (.lst (List.replicate k.toNat a).flatten))
  | _, _, _ => False
def vNeg (x : D) (K : D → Prop) : Prop :=
  match x with
  | .int i => K (.int (-i))
  | _ => False
def vIx (x y : D) (K : D → Prop) : Prop :=
  match x, y with
  | .lst ds, .int i => ∃ d, L2.atI ds i = some d ∧ K d
  | .tup ds, .int i => ∃ d, L2.atI ds i = some d ∧ K d
  | .str s, .int i => s.length ≤ lim ∧ ∃ c, L2.atI s.cps.toList i = some c ∧ K (.str ⟨#[c]⟩)
  | .dicK ks ds, y => ∃ k d, keyOf y = some k ∧ dget ks ds k = some d ∧ K d
  | .dicT ks ds, .tup ys => ∃ k d, keysOf ys = some k ∧ dget ks ds k = some d ∧ K d
  | _, _ => False
def cutD {α : Type} (xs : List α) (lo hi : Option Int) : List α := (xs.drop (HT.sIx xs.length 0 lo)).take (HT.sIx xs.length xs.length hi - HT.sIx xs.length 0 lo)
def vSl (x : D) (lo hi : Option Int) (K : R → Prop) : Prop :=
  match x with
  | .lst ds => K (.tmp (.lst (cutD ds lo hi)))
  | .tup ds => K (.val (.tup (cutD ds lo hi)))
  | _ => False
def intsD : List D → Option (List Int)
  | [] => some []
  | .int i :: ds => (intsD ds).map (i :: ·)
  | _ :: _ => none
def strsD : List D → Option (List Str)
  | [] => some []
  | .str i :: ds => (strsD ds).map (i :: ·)
  | _ :: _ => none
def tupD (ns : List Int) : D := .tup (ns.map .int)
/-- the kinds of a tuple's items, by place -/
def shp (sh : Nat → Bool) : Nat → List L2.Key → Prop
  | _, [] => True
  | i, .inl _ :: r => sh i = false ∧ shp sh (i + 1) r
  | i, .inr _ :: r => sh i = true ∧ shp sh (i + 1) r
def itm : L2.Key → Int ⊕ List Nat
  | .inl i => .inl i
  | .inr s => .inr s.cps.toList
/-- p < q as tuples -/
def ltK (p q : List L2.Key) : Bool := PyProof.Rows.lexLt PyProof.Rows.itemOrd (p.map itm) (q.map itm)
def keysD (k : List L2.Key) : D := .tup (k.map keyD)
/-- sorted: whole numbers; tuples of whole numbers of one length; texts -/
@[irreducible] def vSort (ds : List D) (K : R → Prop) : Prop :=
  (∃ ns, intsD ds = some ns ∧ ds.length ≤ lim ∧ ∀ ms : List Int, ms.Perm ns → ms.Pairwise (· ≤ ·) → K (.tmp (.lst (ms.map .int)))) ∨
  (∃ (ps : List (List Int)) (d : Nat) (B : Int), ds = ps.map tupD ∧ ps.length < 64 ∧ (1 ≤ d ∨ ps.length ≤ 1) ∧ (∀ p ∈ ps, p.length = d ∧ TS.Bd B p) ∧ ∀ qs : List (List Int), qs.Perm ps → qs.Pairwise (fun p q => TS.code B p ≤ TS.code B q) → K (.tmp (.lst (qs.map tupD)))) ∨
  (∃ ss, strsD ds = some ss ∧ ds.length < 64 ∧ ∀ ys : List Str, ys.Perm ss → PyProof.Rows.sortedS ys = true → K (.tmp (.lst (ys.map .str)))) ∨
  (∃ (sh : Nat → Bool) (ks : List (List L2.Key)), ds = ks.map keysD ∧ (∀ k ∈ ks, k ≠ [] ∧ shp sh 0 k) ∧ ∀ qs : List (List L2.Key), qs.Perm ks → qs.Pairwise (fun p q => ltK q p = false) → K (.tmp (.lst (qs.map keysD))))
def boolsD : List D → Option (List Bool)
  | [] => some []
  | .bl i :: ds => (boolsD ds).map (i :: ·)
  | _ :: _ => none
def vBlt (b : B) (xs : List D) (K : R → Prop) : Prop :=
  match b, xs with
  | .len, [.lst ds] => K (.val (.int (ds.length : Nat)))
  | .len, [.tup ds] => K (.val (.int (ds.length : Nat)))
  | .len, [.str s] => s.length ≤ lim ∧ K (.val (.int (s.length : Nat)))
  | .len, [.dicK ks _] => K (.val (.int (ks.length : Nat)))
  | .len, [.dicT ks _] => K (.val (.int (ks.length : Nat)))
  | .list, [.dicK ks _] => K (.tmp (.lst (ks.map keyD)))
  | .list, [.dicT ks _] => K (.tmp (.lst (ks.map fun k => .tup (k.map keyD))))
  | .max, [.lst ds] => ∃ ns, intsD ds = some ns ∧ ns ≠ [] ∧ ∀ m, m ∈ ns → (∀ y ∈ ns, y ≤ m) → K (.val (.int m))
  | .min, [.lst ds] => ∃ ns, intsD ds = some ns ∧ ns ≠ [] ∧ ∀ m, m ∈ ns → (∀ y ∈ ns, m ≤ y) → K (.val (.int m))
  | .str, [.int i] => i.natAbs.log2 < 1920 ∧ K (.val (.str (toString i)))
  | .str, [.str s] => K (.val (.str s))
  | .abs, [.int i] => K (.val (.int (if i < 0 then -i else i)))
  | .max, [.int i, .int j] => K (.val (.int (if j > i then j else i)))
  | .min, [.int i, .int j] => K (.val (.int (if j < i then j else i)))
  | .int, [.int i] => K (.val (.int i))
  | .int, [.bl c] => K (.val (.int (if c then 1 else 0)))
  | .list, [.lst ds] => K (.tmp (.lst ds))
  | .list, [.tup ds] => K (.tmp (.lst ds))
  | .tuple, [.lst ds] => K (.val (.tup ds))
  | .tuple, [.tup ds] => K (.val (.tup ds))
  | .sum, [.lst ds] => ∃ ns, intsD ds = some ns ∧ K (.val (.int ns.sum))
  | .any, [.lst ds] => ∃ bs, boolsD ds = some bs ∧ K (.val (.bl (bs.any id)))
  | .all, [.lst ds] => ∃ bs, boolsD ds = some bs ∧ K (.val (.bl (bs.all id)))
  | .sorted, [.lst ds] => vSort ds K
  | .range, [.int n] => (0 ≤ n ∧ n ≤ lim) ∧ K (.tmp (.lst ((List.range n.toNat).map fun i => .int (i : Nat))))
  | _, _ => False
def vIsin (x : D) (t : Ty) (K : Bool → Prop) : Prop :=
  match t with
  | .bi n => (match x with
    | .non => K (n == "NoneType")
    | .bl _ => K (n == "bool" || n == "int")
    | .int _ => K (n == "int")
    | .str _ => K (n == "str")
    | .lst _ => K (n == "list")
    | .tup _ => K (n == "tuple")
    | .dicK _ _ => K (n == "dict")
    | .dicT _ _ => K (n == "dict")
    | _ => False)
  | .own tab => (match x with
    | .exn e _ => ∃ b, tab.lookup e = some b ∧ K b
    | _ => False)

/-- a field: which, by the class -/
def vFld (x : D) (tab : List (Nat × Nat)) (K : D → Prop) : Prop :=
  match x with
  | .exn c fs => ∃ i d, tab.lookup c = some i ∧ fs[i]? = some d ∧ K d
  | _ => False

/-! ### slots -/
def look (ρ : En) (i : Nat) (K : R → Prop) : Prop :=
  match ρ[i]? with
  | some (.val d) => K (.val d)
  | some (.own d) => K (.var i d)
  | _ => False
/-- what was taken from a slot still stands there -/
def R.lv (r : R) (ρ : En) (P : Prop) : Prop :=
  match r with
  | .var i d => (ρ[i]? = some (.own d) ∨ ρ[i]? = some (.val d)) ∧ P
  | _ => P
def lvs : List R → En → Prop → Prop
  | [], _, P => P
  | r :: rs, ρ, P => r.lv ρ (lvs rs ρ P)
/-- the slot's own thing is changed no more -/
def R.fz (r : R) (ρ : En) : En :=
  match r with
  | .var i d => ρ.set i (.val d)
  | _ => ρ
def fzs : List R → En → En
  | [], ρ => ρ
  | r :: rs, ρ => fzs rs (r.fz ρ)
def wipeV : List Nat → En → En
  | [], ρ => ρ
  | i :: is, ρ => (wipeV is ρ).set i .un
/-- the slots at is as in ρ0, the others as in ρ -/
def backV (ρ0 : En) : List Nat → En → En
  | [], ρ => ρ
  | i :: is, ρ => (match ρ0[i]? with
    | some s => (backV ρ0 is ρ).set i s
    | none => backV ρ0 is ρ)
def noOwn : List Nat → En → Prop → Prop
  | [], _, P => P
  | i :: is, ρ, P => match ρ[i]? with
    | some (.own _) => False
    | _ => noOwn is ρ P
/-- the store of a result in a slot -/
def put (i : Nat) (r : R) (ρ : En) : En :=
  match r with
  | .val d => ρ.set i (.val d)
  | .tmp d => ρ.set i (.own d)
  | .var j d => (ρ.set j (.val d)).set i (.val d)
abbrev EK := R → En → Prop
abbrev XK := Exc → En → Prop
/-- the type that a method is asked of -/
def recv (m : M) (d : D) (P : Prop) : Prop :=
  match m, d with
  | .append, .lst _ => P
  | .pop, .lst _ => P
  | .extend, .lst _ => P
  | .insert, .lst _ => P
  | .index, .lst _ => P
  | .reverse, .lst _ => P
  | .get, .dicK _ _ => P
  | .get, .dicT _ _ => P
  | .upper, .str _ => P
  | .isalpha, .str _ => P
  | .isdigit, .str _ => P
  | .isalnum, .str _ => P
  | .join, .str _ => P
  | .startswith, .str _ => P
  | .count, .str _ => P
  | .split, .str _ => P
  | .partition, .str _ => P
  | _, _ => False
def vTxt (d : D) (K : Str → Prop) : Prop :=
  match d with
  | .str s => K s
  | _ => False
/-- methods of built-in types -/
def vMet (m : M) (x : R) (rs : List R) (ρ : En) (K : EK) : Prop :=
  match m, x, rs with
  | .append, .var i (.lst ds), [r] => ((r.fz ρ)[i]? = some (.own (.lst ds)) ∧ ds.length < lim) ∧ K (.val .non) ((r.fz ρ).set i (.own (.lst (ds ++ [r.d]))))
  | .pop, .var i (.lst ds), [] => ρ[i]? = some (.own (.lst ds)) ∧ ∃ d, ds[ds.length - 1]? = some d ∧ K (.val d) (ρ.set i (.own (.lst ds.dropLast)))
  | .pop, .var i (.lst ds), [r] => (match r.d with
    | .int k => (ρ[i]? = some (.own (.lst ds)) ∧ 0 ≤ k ∧ k < 2 ^ 62) ∧ ∃ d, ds[k.toNat]? = some d ∧ K (.val d) (ρ.set i (.own (.lst (ds.eraseIdx k.toNat))))
    | _ => False)
  | .extend, .var i (.lst ds), [r] => (match r.d with
    | .lst es => ((r.fz ρ)[i]? = some (.own (.lst ds)) ∧ ds.length + es.length ≤ lim) ∧ K (.val .non) ((r.fz ρ).set i (.own (.lst (ds ++ es))))
    | _ => False)
  | .insert, .var i (.lst ds), [p, r] => (match p.d with
    | .int k => ((r.fz ρ)[i]? = some (.own (.lst ds)) ∧ (0 ≤ k ∧ k ≤ ds.length) ∧ ds.length < lim) ∧ K (.val .non) ((r.fz ρ).set i (.own (.lst (ds.take k.toNat ++ r.d :: ds.drop k.toNat))))
    | _ => False)
  | .index, x, [r] => (match x.d with
    | .lst ds => r.d.flat = true ∧ ds.all D.flat = true ∧ ∃ (j : Nat) (z : D), ds[j]? = some z ∧ eqF z r.d = true ∧ (∀ (i : Nat) (y : D), i < j → ds[i]? = some y → eqF y r.d = false) ∧ K (.val (.int (j : Nat))) ρ
    | _ => False)
  | .reverse, .var i (.lst ds), [] => ρ[i]? = some (.own (.lst ds)) ∧ K (.val .non) (ρ.set i (.own (.lst ds.reverse)))
  | .get, x, [k, z] => (match x.d with
    | .dicK ks ds => ∃ q, keyOf k.d = some q ∧ z.d.scal = true ∧ K (.val ((dget ks ds q).getD z.d)) ρ
    | .dicT ks ds => (match k.d with
      | .tup ys => ∃ q, keysOf ys = some q ∧ z.d.scal = true ∧ K (.val ((dget ks ds q).getD z.d)) ρ
      | _ => False)
    | _ => False)
  | .upper, x, [] => vTxt x.d fun s => s.length ≤ lim ∧ K (.val (.str (Txt.upper s))) ρ
  | .isalpha, x, [] => vTxt x.d fun s => K (.val (.bl (Txt.isalpha s))) ρ
  | .isdigit, x, [] => vTxt x.d fun s => K (.val (.bl (Txt.isdigit s))) ρ
  | .isalnum, x, [] => vTxt x.d fun s => K (.val (.bl (Txt.isalnum s))) ρ
  | .startswith, x, [r] => vTxt x.d fun s => vTxt r.d fun t => K (.val (.bl (Txt.startswith s t))) ρ
  | .count, x, [r] => vTxt x.d fun s => vTxt r.d fun t => K (.val (.int (Txt.count s t))) ρ
  | .split, x, [r] => vTxt x.d fun s => vTxt r.d fun t => (s.length ≤ lim ∧ t.length ≠ 0) ∧ K (.tmp (.lst ((Txt.split s t).map .str))) ρ
  | .partition, x, [r] => vTxt x.d fun s => vTxt r.d fun t => (s.length ≤ lim ∧ t.length ≠ 0) ∧ K (.val (.tup [.str (Txt.partition s t).1, .str (Txt.partition s t).2.1, .str (Txt.partition s t).2.2])) ρ
  | .join, x, [r] => vTxt x.d fun s => (match r.d with
    | .lst ds => ∃ ys, strsD ds = some ys ∧ (ys.map (·.length)).sum + ys.length * s.length ≤ lim ∧ K (.val (.str (Txt.join s ys))) ρ
    | _ => False)
  | _, _, _ => False
/-- o[k] = r, o a slot's own thing -/
def vSet (x k r : R) (ρ : En) (K : En → Prop) : Prop :=
  match x with
  | .var j (.lst ds) => (match k.d with
    | .int n => (r.fz ρ)[j]? = some (.own (.lst ds)) ∧ ∃ m, L2.ixN ds.length n = some m ∧ K ((r.fz ρ).set j (.own (.lst (ds.set m r.d))))
    | _ => False)
  | .var j (.dicK ks ds) => ∃ q, keyOf k.d = some q ∧ (r.fz ρ)[j]? = some (.own (.dicK ks ds)) ∧ ks.length < lim ∧ K ((r.fz ρ).set j (.own (.dicK (kput ks q) (aset ks ds q r.d))))
  | .var j (.dicT ks ds) => (match k.d with
    | .tup ys => ∃ q, keysOf ys = some q ∧ (r.fz ρ)[j]? = some (.own (.dicT ks ds)) ∧ ks.length < lim ∧ K ((r.fz ρ).set j (.own (.dicT (kput ks q) (aset ks ds q r.d))))
    | _ => False)
  | _ => False
def vIp (op : Operator) (x y : D) (K : D → Prop) : Prop :=
  match op, x, y with
  | .Add, .int a, .int b => K (.int (a + b))
  | .Sub, .int a, .int b => K (.int (a - b))
  | _, _, _ => False
/-- a comprehension's turns -/
def compL (own : List Nat) (step : D → En → EK → (En → Prop) → Prop) : List D → List D → En → (List D → En → Prop) → Prop
  | [], acc, ρ, K => K acc ρ
  | d :: ds, acc, ρ, K => step d ρ (fun r ρ1 => r.lv ρ1 (acc.length < lim ∧ compL own step ds (acc ++ [r.d]) (wipeV own (r.fz ρ1)) K)) fun ρ1 => compL own step ds acc (wipeV own ρ1) K
/-- a loop's turns -/
def forL (step : D → En → (En → Prop) → (En → Prop) → Prop) (K : En → Prop) : List D → En → Prop
  | [], ρ => K ρ
  | d :: ds, ρ => step d ρ (forL step K ds) K
/-- enumerate -/
def enumD : Nat → List D → List D
  | _, [] => []
  | k, d :: ds => .tup [.int (k : Nat), d] :: enumD (k + 1) ds
def zipD : List D → List D → List D
  | x :: xs, y :: ys => .tup [x, y] :: zipD xs ys
  | _, _ => []
def rngD (lo hi : Int) : List D := (List.range (hi - lo).toNat).map fun k => .int (lo + (k : Nat))
def vIter (x : R) (ρ : En) (K : List D → En → Prop) : Prop :=
  match x.d with
  | .lst ds => K ds (x.fz ρ)
  | .tup ds => K ds (x.fz ρ)
  | .str s => K (s.cps.toList.map fun c => .str ⟨#[c]⟩) ρ
  | _ => False
def vEnum (x : R) (ρ : En) (K : List D → En → Prop) : Prop :=
  match x.d with
  | .lst ds => K (enumD 0 ds) (x.fz ρ)
  | .tup ds => K (enumD 0 ds) (x.fz ρ)
  | _ => False
/-- a list or tuple: which, its items -/
def seqD : D → Option (Bool × List D)
  | .lst ds => some (false, ds)
  | .tup ds => some (true, ds)
  | _ => none
def vZip (x y : R) (ρ : En) (K : List D → En → Prop) : Prop :=
  match seqD x.d, seqD y.d with
  | some (_, ds), some (_, es) => K (zipD ds es) (y.fz (x.fz ρ))
  | _, _ => False
def zip3D : List D → List D → List D → List D
  | x :: xs, y :: ys, z :: zs => .tup [x, y, z] :: zip3D xs ys zs
  | _, _, _ => []
def vZip3 (x y z : R) (ρ : En) (K : List D → En → Prop) : Prop :=
  match seqD x.d, seqD y.d, seqD z.d with
  | some (_, ds), some (_, es), some (_, fs) => K (zip3D ds es fs) (z.fz (y.fz (x.fz ρ)))
  | _, _, _ => False
def vRng (xs : List D) (K : List D → Prop) : Prop :=
  match xs with
  | [.int n] => (-(2 ^ 62) ≤ n ∧ n < 2 ^ 62) ∧ K (rngD 0 n)
  | [.int m, .int n] => (-(2 ^ 62) ≤ m ∧ m < 2 ^ 62 ∧ -(2 ^ 62) ≤ n ∧ n < 2 ^ 62) ∧ K (rngD m n)
  | _ => False

/-- two objects of the class c -/
def objs2 (x y : R) (c : Nat) (P : List D → List D → Prop) (Q : Prop) : Prop :=
  match x with
  | .val (.obj c' f) => (match y with
    | .val (.obj c'' g) => (c' = c ∧ c'' = c) ∧ P f g
    | _ => False)
  | _ => Q
def obj1 (x : R) (c : Nat) (P : List D → Prop) (Q : Prop) : Prop :=
  match x with
  | .val (.obj c' f) => c' = c ∧ P f
  | _ => Q
/-! ### the reading -/
section
variable (Γ : Nat → VSp)
mutual
def wG : VG → R → En → (En → Prop) → Prop
  | .bad, _, _, _ => False
  | .nm i, r, ρ, K => K (put i r ρ)
  | .tp gs, r, ρ, K => match r with
    | .val (.tup ds) => wGs gs ds ρ K
    | _ => False
def wGs : VGs → List D → En → (En → Prop) → Prop
  | .nil, [], ρ, K => K ρ
  | .cons g gs, d :: ds, ρ, K => wG g (.val d) ρ fun ρ1 => wGs gs ds ρ1 K
  | _, _, _, _ => False
end
mutual
def wE : VE → En → EK → XK → Prop
  | .bad, _, _, _ => False
  | .var i, ρ, K, _ => look ρ i fun r => K r ρ
  | .cst d, ρ, K, _ => K (.val d) ρ
  | .bin op a b, ρ, K, E => wE a ρ (fun x ρ1 => wE b ρ1 (fun y ρ2 => x.lv ρ2 (vBin op x.d y.d fun r => K r ρ2)) E) E
  | .neg a, ρ, K, E => wE a ρ (fun x ρ1 => vNeg x.d fun d => K (.val d) ρ1) E
  | .notE a, ρ, K, E => wE a ρ (fun x ρ1 => truth x.d fun b => K (.val (.bl (!b))) ρ1) E
  | .cmp op a b, ρ, K, E => wE a ρ (fun x ρ1 => wE b ρ1 (fun y ρ2 => x.lv ρ2 (vCmp op x.d y.d fun c => K (.val (.bl c)) ρ2)) E) E
  | .chn op op' a b c, ρ, K, E => wE a ρ (fun x ρ1 => wE b ρ1 (fun y ρ2 => x.lv ρ2 (vCmp op x.d y.d fun k => (k = true → wE c ρ2 (fun z ρ3 => y.lv ρ3 (vCmp op' y.d z.d fun k' => K (.val (.bl k')) ρ3)) E) ∧ (k = false → K (.val (.bl false)) ρ2))) E) E
  | .andE a b, ρ, K, E => wE a ρ (fun x ρ1 => ∃ c, x.d = .bl c ∧ (c = true → wE b ρ1 K E) ∧ (c = false → K (.val (.bl false)) ρ1)) E
  | .orE a b, ρ, K, E => wE a ρ (fun x ρ1 => ∃ c, x.d = .bl c ∧ (c = true → K (.val (.bl true)) ρ1) ∧ (c = false → wE b ρ1 K E)) E
  | .ife t a b, ρ, K, E => wC t ρ (fun c ρ1 => (c = true → wE a ρ1 K E) ∧ (c = false → wE b ρ1 K E)) E
  | .tup es, ρ, K, E => wEs es ρ (fun rs ρ1 => lvs rs ρ1 (K (.val (.tup (rs.map R.d))) (fzs rs ρ1))) E
  | .lst es, ρ, K, E => wEs es ρ (fun rs ρ1 => lvs rs ρ1 (K (.tmp (.lst (rs.map R.d))) (fzs rs ρ1))) E
  | .ix a i, ρ, K, E => wE a ρ (fun x ρ1 => wE i ρ1 (fun y ρ2 => x.lv ρ2 (vIx x.d y.d fun d => K (.val d) ρ2)) E) E
  | .sl a lo hi, ρ, K, E => wE a ρ (fun x ρ1 => wO lo ρ1 (fun l ρ2 => wO hi ρ2 (fun h ρ3 => x.lv ρ3 (vSl x.d l h fun r => K r ρ3)) E) E) E
  | .fld a tab, ρ, K, E => wE a ρ (fun x ρ1 => vFld x.d tab fun d => K (.val d) ρ1) E
  | .call n es, ρ, K, E => wEs es ρ (fun rs ρ1 => lvs rs ρ1 ((Γ n).run (rs.map R.d) (fun o d => K (if o then .tmp d else .val d) (if d.lf then ρ1 else fzs rs ρ1)) fun x => E x (fzs rs ρ1))) E
  | .blt b es, ρ, K, E => wEs es ρ (fun rs ρ1 => lvs rs ρ1 (vBlt b (rs.map R.d) fun r => K r ρ1)) E
  | .isin a t, ρ, K, E => wE a ρ (fun x ρ1 => vIsin x.d t fun b => K (.val (.bl b)) ρ1) E
  | .met m a es, ρ, K, E => wE a ρ (fun x ρ1 => recv m x.d (wEs es ρ1 (fun rs ρ2 => x.lv ρ2 (lvs rs ρ2 (vMet m x rs ρ2 K))) E)) E
  | .comp own elt g it ifs, ρ, K, E => wI it ρ (fun ds ρ1 => noOwn own ρ1 (compL own (fun d ρ2 Ka Ks => wG g (.val d) ρ2 fun ρ3 => wC ifs ρ3 (fun c ρ4 => (c = true → wE elt ρ4 Ka fun _ _ => False) ∧ (c = false → Ks ρ4)) fun _ _ => False) ds [] (wipeV own ρ1) fun acc ρ5 => K (.tmp (.lst acc)) (backV ρ1 own ρ5))) E
  | .dnew, ρ, K, _ => K (.tmp (.dicK [] [])) ρ ∨ K (.tmp (.dicT [] [])) ρ
  | .fldO a c i, ρ, K, E => wE a ρ (fun x ρ1 => ∃ fs d, x.d = .obj c fs ∧ fs[i]? = some d ∧ K (.val d) ρ1) E
  | .mcl c n a es, ρ, K, E => wE a ρ (fun x ρ1 => ∃ fs, x = .val (.obj c fs) ∧ wEs es ρ1 (fun rs ρ2 => lvs rs ρ2 ((Γ n).run (.obj c fs :: rs.map R.d) (fun o d => K (if o then .tmp d else .val d) (if d.lf then ρ2 else fzs rs ρ2)) fun x => E x (fzs rs ρ2))) E) E
  | .binO op c n a b, ρ, K, E => wE a ρ (fun x ρ1 => wE b ρ1 (fun y ρ2 => x.lv ρ2 (objs2 x y c (fun f g => (Γ n).run [.obj c f, .obj c g] (fun o d => K (if o then .tmp d else .val d) ρ2) fun x => E x ρ2) (vBin op x.d y.d fun r => K r ρ2))) E) E
  | .cmpO neg c n a b, ρ, K, E => wE a ρ (fun x ρ1 => wE b ρ1 (fun y ρ2 => x.lv ρ2 (objs2 x y c (fun f g => (Γ n).run [.obj c f, .obj c g] (fun _ d => ∃ b, d = .bl b ∧ K (.val (.bl (if neg then !b else b))) ρ2) fun x => E x ρ2) (vCmp (if neg then .NotEq else .Eq) x.d y.d fun c => K (.val (.bl c)) ρ2))) E) E
  | .negO c n a, ρ, K, E => wE a ρ (fun x ρ1 => obj1 x c (fun f => (Γ n).run [.obj c f] (fun o d => K (if o then .tmp d else .val d) ρ1) fun x => E x ρ1) (vNeg x.d fun d => K (.val d) ρ1)) E
  | .lenO c n a, ρ, K, E => wE a ρ (fun x ρ1 => obj1 x c (fun f => (Γ n).run [.obj c f] (fun _ d => ∃ k : Int, d = .int k ∧ 0 ≤ k ∧ k < 2 ^ 62 ∧ K (.val (.int k)) ρ1) fun _ => False) (vBlt .len [x.d] fun r => K r ρ1)) E
  | .lstO c i a, ρ, K, E => wE a ρ (fun x ρ1 => obj1 x c (fun f => ∃ ds, f[i]? = some (.lst ds) ∧ K (.tmp (.lst ds)) ρ1) (vBlt .list [x.d] fun r => K r ρ1)) E
  | .calO c n i es, ρ, K, E => look ρ i fun x => ∃ fs, x = .val (.obj c fs) ∧ wEs es ρ (fun rs ρ2 => lvs rs ρ2 ((Γ n).run (.obj c fs :: rs.map R.d) (fun o d => K (if o then .tmp d else .val d) (if d.lf then ρ2 else fzs rs ρ2)) fun x => E x (fzs rs ρ2))) E
  | .lrg a b, ρ, K, E => wO a ρ (fun l ρ1 => wE b ρ1 (fun y ρ2 => ∃ n, y.d = .int n ∧ (0 ≤ l.getD 0 ∧ l.getD 0 ≤ lim ∧ 0 ≤ n ∧ n ≤ lim) ∧ K (.tmp (.lst (rngD (l.getD 0) n))) ρ2) E) E
def wC : VC → En → (Bool → En → Prop) → XK → Prop
  | .tv e, ρ, K, E => wE e ρ (fun x ρ1 => truth x.d fun b => K b ρ1) E
  | .tnot t, ρ, K, E => wC t ρ (fun b ρ1 => K (!b) ρ1) E
  | .tand t u, ρ, K, E => wC t ρ (fun b ρ1 => (b = true → wC u ρ1 K E) ∧ (b = false → K false ρ1)) E
  | .tor t u, ρ, K, E => wC t ρ (fun b ρ1 => (b = true → K true ρ1) ∧ (b = false → wC u ρ1 K E)) E
  | .tyes, ρ, K, _ => K true ρ
def wEs : VEs → En → (List R → En → Prop) → XK → Prop
  | .nil, ρ, K, _ => K [] ρ
  | .cons e es, ρ, K, E => wE e ρ (fun r ρ1 => wEs es ρ1 (fun rs ρ2 => K (r :: rs) ρ2) E) E
def wO : VO → En → (Option Int → En → Prop) → XK → Prop
  | .none, ρ, K, _ => K none ρ
  | .some e, ρ, K, E => wE e ρ (fun r ρ1 => ∃ i, r.d = .int i ∧ K (some i) ρ1) E
def wI : VI → En → (List D → En → Prop) → XK → Prop
  | .it e, ρ, K, E => wE e ρ (fun x ρ1 => vIter x ρ1 K) E
  | .rng es, ρ, K, E => wEs es ρ (fun rs ρ1 => vRng (rs.map R.d) fun ds => K ds ρ1) E
  | .enum e, ρ, K, E => wE e ρ (fun x ρ1 => vEnum x ρ1 K) E
  | .zip a b, ρ, K, E => wE a ρ (fun x ρ1 => wE b ρ1 (fun y ρ2 => x.lv ρ2 (vZip x y ρ2 K)) E) E
  | .zip3 a b c, ρ, K, E => wE a ρ (fun x ρ1 => wE b ρ1 (fun y ρ2 => wE c ρ2 (fun z ρ3 => x.lv ρ3 (y.lv ρ3 (vZip3 x y z ρ3 K))) E) E) E
  | .itO c i e, ρ, K, E => wE e ρ (fun x ρ1 => obj1 x c (fun f => ∃ ds, f[i]? = some (.lst ds) ∧ K ds ρ1) (vIter x ρ1 K)) E
end
mutual
/-- no handled exception in it -/
def D.noX : D → Bool
  | .tup ds => D.noXs ds
  | .lst ds => D.noXs ds
  | .exn _ _ => false
  | .obj _ fs => D.noXs fs
  | .dicK _ ds => D.noXs ds
  | .dicT _ ds => D.noXs ds
  | _ => true
def D.noXs : List D → Bool
  | [] => true
  | d :: ds => d.noX && D.noXs ds
end
def Slot.noX : Slot → Bool
  | .un => true
  | .val d => d.noX
  | .own d => d.noX
def noX (ρ : En) : Prop := ∀ s ∈ ρ, s.noX = true
structure VEnds where
  nx : En → Prop
  rt : Bool → D → Prop
  bk : En → Prop := fun _ => False
  ct : En → Prop := fun _ => False
def retR (r : R) (K : Bool → D → Prop) : Prop :=
  match r with
  | .val d => K false d
  | .tmp d => K true d
  | .var _ d => K true d
def vAug (i : Nat) (op : Operator) (x : R) (y : R) (ρ : En) (K : En → Prop) : Prop :=
  match op, x.d, y.d with
  | .Add, .int a, .int b => K (ρ.set i (.val (.int (a + b))))
  | .Sub, .int a, .int b => K (ρ.set i (.val (.int (a - b))))
  | _, _, _ => False
mutual
def wS : VS → En → VEnds → XK → Prop
  | .bad, _, _, _ => False
  | .pass, ρ, D, _ => D.nx ρ
  | .brk, ρ, D, _ => D.bk ρ
  | .cnt, ρ, D, _ => D.ct ρ
  | .ret e, ρ, D, E => wE Γ e ρ (fun r _ => retR r D.rt) E
  | .retN, _, D, _ => D.rt false .non
  | .ex e, ρ, D, E => wE Γ e ρ (fun _ ρ1 => D.nx ρ1) E
  | .asg g e, ρ, D, E => wE Γ e ρ (fun r ρ1 => wG g r ρ1 D.nx) E
  | .par i j a b, ρ, D, E => wE Γ a ρ (fun x ρ1 => wE Γ b ρ1 (fun y ρ2 => x.lv ρ2 (D.nx (put j y (put i x ρ2)))) E) E
  | .setix a i v, ρ, D, E => wE Γ v ρ (fun r ρ1 => wE Γ a ρ1 (fun x ρ2 => wE Γ i ρ2 (fun k ρ3 => r.lv ρ3 (x.lv ρ3 (k.lv ρ3 (vSet x k r ρ3 D.nx)))) E) E) E
  | .aug i op e, ρ, D, E => look ρ i fun x => wE Γ e ρ (fun y ρ1 => x.lv ρ1 (vAug i op x y ρ1 D.nx)) E
  | .augix a i op e, ρ, D, E => wE Γ a ρ (fun x ρ1 => wE Γ i ρ1 (fun k ρ2 => x.lv ρ2 (k.lv ρ2 (x.d.ownable = true ∧ vIx x.d k.d fun d0 => wE Γ e ρ2 (fun y ρ3 => y.lv ρ3 (vIp op d0 y.d fun d => x.lv ρ3 (k.lv ρ3 (vSet x k (.val d) ρ3 D.nx)))) E))) E) E
  | .ifS t a b, ρ, D, E => wC Γ t ρ (fun c ρ1 => (c = true → wSs a ρ1 D E) ∧ (c = false → wSs b ρ1 D E)) E
  | .forS g it b, ρ, D, E => wI Γ it ρ (fun ds ρ1 => forL (fun d ρ2 nx bk => wG g (.val d) ρ2 fun ρ3 => wSs b ρ3 { nx := nx, rt := D.rt, bk := bk, ct := nx } E) D.nx ds ρ1) E
  | .whl t b, ρ, D, E => ∃ W : Nat → En → Prop, (∃ m, W m ρ) ∧ ∀ m ρ1, W m ρ1 → wC Γ t ρ1 (fun c ρ2 => (c = true → wSs b ρ2 { nx := fun ρ3 => ∃ m', m' < m ∧ W m' ρ3, rt := D.rt, bk := D.nx, ct := fun ρ3 => ∃ m', m' < m ∧ W m' ρ3 } E) ∧ (c = false → D.nx ρ2)) E
  | .rse c n es, ρ, _, E => wEs Γ es ρ (fun rs ρ1 => lvs rs ρ1 (E ⟨c, rs.map R.d⟩ (fzs rs ρ1) ∧ rs.length = n)) E
  | .tryA i tab b su, ρ, D, E => wSs b ρ D fun x ρ1 => ∃ y, tab.lookup x.cls = some y ∧
      (y = true → wSs su (ρ1.set i (.val (.exn x.cls x.fs))) { nx := fun ρ2 => noX (ρ2.set i .un) ∧ D.nx (ρ2.set i .un), rt := fun o d => d.noX = true ∧ D.rt o d, bk := fun ρ2 => noX (ρ2.set i .un) ∧ D.bk (ρ2.set i .un), ct := fun ρ2 => noX (ρ2.set i .un) ∧ D.ct (ρ2.set i .un) } fun _ _ => False) ∧ (y = false → E x ρ1)
  | .tryO tab b su, ρ, D, E => wSs b ρ D fun x ρ1 => ∃ y, tab.lookup x.cls = some y ∧
      (y = true → wSs su ρ1 D fun _ _ => False) ∧ (y = false → E x ρ1)
def wSs : VSs → En → VEnds → XK → Prop
  | .nil, ρ, D, _ => D.nx ρ
  | .cons s ss, ρ, D, E => wS s ρ { D with nx := fun ρ1 => wSs ss ρ1 D E } E
end
end
mutual
theorem wG_ex : ∀ (g : VG) (r : R) (ρ : En) (K : En → Prop), wG g r ρ K → ∃ ρ', K ρ'
  | .bad, _, _, _, h => by unfold wG at h; exact h.elim
  | .nm i, r, ρ, K, h => by unfold wG at h; exact ⟨_, h⟩
  | .tp gs, r, ρ, K, h => by
    unfold wG at h
    split at h
    · exact (wGs_ex gs _ ρ K h).1
    · exact h.elim
theorem wGs_ex : ∀ (gs : VGs) (ds : List D) (ρ : En) (K : En → Prop), wGs gs ds ρ K → (∃ ρ', K ρ') ∧ ds.length = gs.len
  | .nil, [], ρ, K, h => by unfold wGs at h; exact ⟨⟨_, h⟩, rfl⟩
  | .cons g gs, d :: ds, ρ, K, h => by
    unfold wGs at h
    obtain ⟨ρ1, h1⟩ := wG_ex g _ ρ _ h
    obtain ⟨h2, h3⟩ := wGs_ex gs ds ρ1 K h1
    exact ⟨h2, by rw [List.length_cons, h3]; rfl⟩
  | .nil, _ :: _, _, _, h => by unfold wGs at h; exact h.elim
  | .cons _ _, [], _, _, h => by unfold wGs at h; exact h.elim
end
end VL
set_option maxHeartbeats 4000000
/-! VLb: what a datum is in the abstract heap; states; how they go on. -/
namespace VL
open PySem L2

/-- what stays through a whole law: the written part, the own classes by number (their addresses, their attributes in order) -/
structure CT where
  K : PySem.W.Frag
  cls : Nat → Addr
  fld : Nat → List Str
/-- the store of draws: its dict, its list of cells, these -/
structure SG where
  p : Addr
  c : Addr
  ns : List Int
  x : Option (Addr × Nat × Addr)
/-- the fields of an exception's dict -/
def FldsOf (C : CT) (c : Nat) (fl : List (Str × V)) (vs : List V) : Prop := vs.length = (C.fld c).length ∧ ∀ (i : Nat) f, (C.fld c)[i]? = some f → fl.lookup f = vs[i]?

def Sub (F H : Hp) : Prop := ∀ a o, F a = some o → H a = some o
theorem Sub.refl (F : Hp) : Sub F F := fun _ _ h => h
theorem Sub.trans {F G H : Hp} (a : Sub F G) (b : Sub G H) : Sub F H := fun x o h => b x o (a x o h)
theorem Sub.upd {F : Hp} {a : Addr} {o : HO} (h : F a = none) : Sub F (upd F a o) := fun b u e => by
  rw [upd_ne (ne_of_none e h)]
  exact e
theorem Sub.none {F H : Hp} (s : Sub F H) {a : Addr} (h : H a = .none) : F a = .none := by
  cases q : F a with
  | none => rfl
  | some o => rw [s a o q] at h; cases h
theorem Sub.sqT {K : PySem.W.Frag} {F H : Hp} (s : Sub F H) {a : Addr} {xs : List V} (h : SqT K F a xs) : SqT K H a xs := by
  rcases h with (h | ⟨o, h⟩) | h
  · exact .inl (.inl (s _ _ h))
  · exact .inl (.inr ⟨o, s _ _ h⟩)
  · exact .inr h
theorem Sub.sqL {K : PySem.W.Frag} {F H : Hp} (s : Sub F H) {a : Addr} {xs : List V} (h : SqL K F a xs) : SqL K H a xs := by
  rcases h with (h | ⟨o, h⟩) | h
  · exact .inl (.inl (s _ _ h))
  · exact .inl (.inr ⟨o, s _ _ h⟩)
  · exact .inr h

mutual
/-- the datum d stands at the value v, all of it in the part F of the heap that nobody changes -/
def Rep (C : CT) (S : SG) (F : Hp) : D → V → Prop
  | .non, v => v = .non
  | .bl b, v => v = .bl b
  | .int i, v => v = .int i
  | .str s, v => v = .str s
  | .tok, v => v = .ref S.p
  | .tup ds, v => ∃ a vs, v = .ref a ∧ F a = some (.tup vs) ∧ Reps C S F ds vs
  | .lst ds, v => ∃ a vs, v = .ref a ∧ F a = some (.lst vs) ∧ Reps C S F ds vs
  | .dicK ks ds, v => ∃ a vs, v = .ref a ∧ F a = some (.dK (ks.zip vs)) ∧ vs.length = ks.length ∧ Reps C S F ds vs
  | .dicT ks ds, v => ∃ a vs, v = .ref a ∧ F a = some (.dT (ks.zip vs)) ∧ vs.length = ks.length ∧ Reps C S F ds vs
  | .obj c fs, v => ∃ a dx vs, v = .ref a ∧ F a = some (.ins (C.cls c) dx ((C.fld c).zip vs)) ∧ vs.length = (C.fld c).length ∧ Reps C S F fs vs
  | .exn c fs, v => ∃ a dx fl vs, S.x = some (a, c, dx) ∧ v = .ref a ∧ F dx = some (.xd fl) ∧ FldsOf C c fl vs ∧ Reps C S F fs vs
def Reps (C : CT) (S : SG) (F : Hp) : List D → List V → Prop
  | [], vs => vs = []
  | d :: ds, vs => ∃ v r, vs = v :: r ∧ Rep C S F d v ∧ Reps C S F ds r
end
section
variable {C : CT} {S : SG} {F F' H : Hp}
mutual
theorem Rep.mono (s : Sub F F') : ∀ (d : D) (v : V), Rep C S F d v → Rep C S F' d v
  | .non, _, h => by unfold Rep at h ⊢; exact h
  | .bl _, _, h => by unfold Rep at h ⊢; exact h
  | .int _, _, h => by unfold Rep at h ⊢; exact h
  | .str _, _, h => by unfold Rep at h ⊢; exact h
  | .tok, _, h => by unfold Rep at h ⊢; exact h
  | .tup ds, _, h => by
    unfold Rep at h ⊢
    obtain ⟨a, vs, e, q, r⟩ := h
    exact ⟨a, vs, e, s _ _ q, Reps.mono s ds vs r⟩
  | .lst ds, _, h => by
    unfold Rep at h ⊢
    obtain ⟨a, vs, e, q, r⟩ := h
    exact ⟨a, vs, e, s _ _ q, Reps.mono s ds vs r⟩
  | .dicK ks ds, _, h => by
    unfold Rep at h ⊢
    obtain ⟨a, vs, e, q, l, r⟩ := h
    exact ⟨a, vs, e, s _ _ q, l, Reps.mono s ds vs r⟩
  | .dicT ks ds, _, h => by
    unfold Rep at h ⊢
    obtain ⟨a, vs, e, q, l, r⟩ := h
    exact ⟨a, vs, e, s _ _ q, l, Reps.mono s ds vs r⟩
  | .obj c fs, _, h => by
    unfold Rep at h ⊢
    obtain ⟨a, dx, vs, e, q, l, r⟩ := h
    exact ⟨a, dx, vs, e, s _ _ q, l, Reps.mono s fs vs r⟩
  | .exn c fs, _, h => by
    unfold Rep at h ⊢
    obtain ⟨a, dx, fl, vs, e1, e, q, l, r⟩ := h
    exact ⟨a, dx, fl, vs, e1, e, s _ _ q, l, Reps.mono s fs vs r⟩
theorem Reps.mono (s : Sub F F') : ∀ (ds : List D) (vs : List V), Reps C S F ds vs → Reps C S F' ds vs
  | [], _, h => by unfold Reps at h ⊢; exact h
  | d :: ds, _, h => by
    unfold Reps at h ⊢
    obtain ⟨v, r, e, h1, h2⟩ := h
    exact ⟨v, r, e, Rep.mono s d v h1, Reps.mono s ds r h2⟩
end
/-- what an object that is a list, a dict holds -/
def Top (C : CT) (S : SG) (F : Hp) : D → HO → Prop
  | .lst ds, o => ∃ vs, o = .lst vs ∧ Reps C S F ds vs
  | .dicK ks ds, o => ∃ vs, o = .dK (ks.zip vs) ∧ vs.length = ks.length ∧ Reps C S F ds vs
  | .dicT ks ds, o => ∃ vs, o = .dT (ks.zip vs) ∧ vs.length = ks.length ∧ Reps C S F ds vs
  | _, _ => False
theorem Top.mono (s : Sub F F') {d : D} {o : HO} (h : Top C S F d o) : Top C S F' d o := by
  cases d <;> first
    | exact h.elim
    | (obtain ⟨vs, e, r⟩ := h; exact ⟨vs, e, Reps.mono s _ _ r⟩)
    | (obtain ⟨vs, e, l, r⟩ := h; exact ⟨vs, e, l, Reps.mono s _ _ r⟩)
theorem Top.ntup {d : D} {o : HO} (h : Top C S F d o) : ∀ ts, o ≠ .tup ts := fun ts z => by
  cases d <;> first
    | exact h.elim
    | (obtain ⟨vs, e, r⟩ := h; rw [z] at e; cases e)
/-- d may be owned -/
theorem Top.own {d : D} {o : HO} (h : Top C S F d o) : d.ownable = true := by
  cases d <;> first | rfl | exact h.elim
theorem Rep.top {d : D} {v : V} (hd : d.ownable = true) : Rep C S F d v ↔ ∃ a o, v = .ref a ∧ F a = some o ∧ Top C S F d o := by
  cases d <;> first | cases hd | skip
  all_goals unfold Rep Top
  all_goals constructor
  · rintro ⟨a, vs, e, q, r⟩; exact ⟨a, _, e, q, vs, rfl, r⟩
  · rintro ⟨a, o, e, q, vs, rfl, r⟩; exact ⟨a, vs, e, q, r⟩
  · rintro ⟨a, vs, e, q, l, r⟩; exact ⟨a, _, e, q, vs, rfl, l, r⟩
  · rintro ⟨a, o, e, q, vs, rfl, l, r⟩; exact ⟨a, vs, e, q, l, r⟩
  · rintro ⟨a, vs, e, q, l, r⟩; exact ⟨a, _, e, q, vs, rfl, l, r⟩
  · rintro ⟨a, o, e, q, vs, rfl, l, r⟩; exact ⟨a, vs, e, q, l, r⟩
theorem Rep.scal {d : D} {v : V} (hs : d.scal = true) (h : Rep C S F d v) : Rep C S F' d v := by
  cases d <;> first | (unfold Rep at h ⊢; exact h) | (cases hs)
theorem Reps.nil : Reps C S F [] [] := by unfold Reps; rfl
theorem Reps.cons {d : D} {ds : List D} {v : V} {vs : List V} (h1 : Rep C S F d v) (h2 : Reps C S F ds vs) : Reps C S F (d :: ds) (v :: vs) := by
  unfold Reps
  exact ⟨v, vs, rfl, h1, h2⟩
theorem Reps.len : ∀ {ds : List D} {vs : List V}, Reps C S F ds vs → vs.length = ds.length
  | [], _, h => by unfold Reps at h; subst h; rfl
  | d :: ds, _, h => by
    unfold Reps at h
    obtain ⟨v, r, rfl, _, h2⟩ := h
    rw [List.length_cons, List.length_cons, Reps.len h2]
theorem Reps.at : ∀ {ds : List D} {vs : List V} {i : Nat} {d : D}, Reps C S F ds vs → ds[i]? = some d → ∃ v, vs[i]? = some v ∧ Rep C S F d v
  | [], _, _, _, _, e => by simp at e
  | d :: ds, _, 0, d', h, e => by
    unfold Reps at h
    obtain ⟨v, r, rfl, h1, _⟩ := h
    have e2 : d = d' := by simpa using e
    subst e2
    exact ⟨v, by simp, h1⟩
  | d :: ds, _, i + 1, d', h, e => by
    unfold Reps at h
    obtain ⟨v, r, rfl, _, h2⟩ := h
    obtain ⟨w, e1, e2⟩ := Reps.at (i := i) h2 (by simpa using e)
    exact ⟨w, by simpa using e1, e2⟩
theorem Reps.at' : ∀ {ds : List D} {vs : List V} {i : Nat} {v : V}, Reps C S F ds vs → vs[i]? = some v → ∃ d, ds[i]? = some d ∧ Rep C S F d v
  | [], _, _, _, h, e => by unfold Reps at h; subst h; simp at e
  | d :: ds, _, 0, v', h, e => by
    unfold Reps at h
    obtain ⟨v, r, rfl, h1, _⟩ := h
    have e2 : v = v' := by simpa using e
    subst e2
    exact ⟨d, by simp, h1⟩
  | d :: ds, _, i + 1, v', h, e => by
    unfold Reps at h
    obtain ⟨v, r, rfl, _, h2⟩ := h
    obtain ⟨w, e1, e2⟩ := Reps.at' (i := i) h2 (by simpa using e)
    exact ⟨w, by simpa using e1, e2⟩
theorem Reps.app : ∀ {ds es : List D} {vs us : List V}, Reps C S F ds vs → Reps C S F es us → Reps C S F (ds ++ es) (vs ++ us)
  | [], _, _, _, h, k => by unfold Reps at h; subst h; exact k
  | d :: ds, es, _, us, h, k => by
    unfold Reps at h
    obtain ⟨v, r, rfl, h1, h2⟩ := h
    exact .cons h1 (Reps.app h2 k)
theorem Reps.take : ∀ {ds : List D} {vs : List V} (n : Nat), Reps C S F ds vs → Reps C S F (ds.take n) (vs.take n)
  | [], _, n, h => by unfold Reps at h; subst h; simp; exact .nil
  | d :: ds, _, 0, h => by simp; exact .nil
  | d :: ds, _, n + 1, h => by
    unfold Reps at h
    obtain ⟨v, r, rfl, h1, h2⟩ := h
    exact .cons h1 (Reps.take n h2)
theorem Reps.drop : ∀ {ds : List D} {vs : List V} (n : Nat), Reps C S F ds vs → Reps C S F (ds.drop n) (vs.drop n)
  | [], _, n, h => by unfold Reps at h; subst h; simp; exact .nil
  | d :: ds, _, 0, h => h
  | d :: ds, _, n + 1, h => by
    unfold Reps at h
    obtain ⟨v, r, rfl, h1, h2⟩ := h
    exact Reps.drop n h2
theorem Reps.erase : ∀ {ds : List D} {vs : List V} (n : Nat), Reps C S F ds vs → Reps C S F (ds.eraseIdx n) (vs.eraseIdx n)
  | [], _, n, h => by unfold Reps at h; subst h; simp; exact .nil
  | d :: ds, _, 0, h => by
    unfold Reps at h
    obtain ⟨v, r, rfl, h1, h2⟩ := h
    exact h2
  | d :: ds, _, n + 1, h => by
    unfold Reps at h
    obtain ⟨v, r, rfl, h1, h2⟩ := h
    exact .cons h1 (Reps.erase n h2)
theorem Reps.rep {ds : List D} {vs : List V} (h : Reps C S F ds vs) : ∀ k : Nat, Reps C S F (List.replicate k ds).flatten (List.replicate k vs).flatten
  | 0 => .nil
  | k + 1 => by
    rw [List.replicate_succ, List.replicate_succ, List.flatten_cons, List.flatten_cons]
    exact h.app (Reps.rep h k)
theorem Reps.dropLast {ds : List D} {vs : List V} (h : Reps C S F ds vs) : Reps C S F ds.dropLast vs.dropLast := by
  rw [List.dropLast_eq_take, List.dropLast_eq_take, h.len]
  exact h.take _
theorem Reps.intsD : ∀ {ds : List D} {vs : List V} {ns : List Int}, VL.intsD ds = some ns → Reps C S F ds vs → vs = ns.map V.int
  | [], _, ns, e, h => by
    unfold Reps at h
    unfold VL.intsD at e
    cases e
    exact h
  | d :: ds, _, ns, e, h => by
    unfold Reps at h
    obtain ⟨v, r, rfl, h1, h2⟩ := h
    cases d with
    | int i =>
      unfold VL.intsD at e
      cases q : VL.intsD ds with
      | none => rw [q] at e; cases e
      | some ms =>
        rw [q] at e
        have e2 : i :: ms = ns := by simpa using e
        subst e2
        unfold Rep at h1
        subst h1
        rw [Reps.intsD q h2] <;> rfl
    | _ => unfold VL.intsD at e; cases e
theorem Reps.boolsD : ∀ {ds : List D} {vs : List V} {ns : List Bool}, VL.boolsD ds = some ns → Reps C S F ds vs → vs = ns.map V.bl
  | [], _, ns, e, h => by
    unfold Reps at h
    unfold VL.boolsD at e
    cases e
    exact h
  | d :: ds, _, ns, e, h => by
    unfold Reps at h
    obtain ⟨v, r, rfl, h1, h2⟩ := h
    cases d with
    | bl i =>
      unfold VL.boolsD at e
      cases q : VL.boolsD ds with
      | none => rw [q] at e; cases e
      | some ms =>
        rw [q] at e
        have e2 : i :: ms = ns := by simpa using e
        subst e2
        unfold Rep at h1
        subst h1
        rw [Reps.boolsD q h2] <;> rfl
    | _ => unfold VL.boolsD at e; cases e
theorem Reps.ofInts : ∀ (ns : List Int), Reps C S F (ns.map .int) (ns.map V.int)
  | [] => .nil
  | n :: ns => .cons (by unfold Rep; rfl) (Reps.ofInts ns)
theorem Reps.mapL {α : Type} {f : α → D} {g : α → V} (h : ∀ x, Rep C S F (f x) (g x)) : ∀ (xs : List α), Reps C S F (xs.map f) (xs.map g)
  | [] => .nil
  | x :: xs => .cons (h x) (Reps.mapL h xs)
end

/-! ### the store of draws -/
/-- the pairs of the store's dict -/
def stoL (c : Addr) (a r l t s : Int) : List (Key × V) := [(.inr "cells", .ref c), (.inr "at", .int a), (.inr "rest", .int r), (.inr "left", .int l), (.inr "turn", .int t), (.inr "seed", .int s)]
structure StoB (ns : List Int) (a r l t s : Int) : Prop where
  a0 : 0 ≤ a
  a1 : a ≤ ns.length
  r0 : 0 ≤ r
  r1 : r < 10 ^ 840
  l0 : 0 ≤ l
  l1 : l ≤ 3
  la : 0 < l → 0 < a
  t0 : 0 ≤ t
  s0 : 0 ≤ s
  s1 : s < 2147483647
structure Sto (S : SG) (F H : Hp) : Prop where
  cells : F S.c = some (.lst (S.ns.map V.int))
  free : F S.p = none
  len : S.ns.length ≤ 63
  st : ∃ a r l t s : Int, H S.p = some (.dK (stoL S.c a r l t s)) ∧ StoB S.ns a r l t s
theorem Sto.has {S : SG} {F H : Hp} (s : Sto S F H) : H S.p ≠ none := by
  obtain ⟨a, r, l, t, z, e, _⟩ := s.st
  rw [e]
  exact fun q => by cases q

/-! ### states -/
/-- the own thing at a: a list (or a dict) that nobody else holds -/
def Own (C : CT) (S : SG) (H0 F H : Hp) (d : D) (a : Addr) : Prop := H0 a = none ∧ F a = none ∧ a ≠ S.p ∧ ∃ o, H a = some o ∧ Top C S F d o
structure OK (C : CT) (S : SG) (F0 H0 F H : Hp) (σ : L2.St) (ρ : En) : Prop where
  sub : Sub F H
  fr : ∀ a o, a ≠ S.p → H0 a = some o → H a = some o
  p0 : H0 S.p ≠ none
  f0 : Sub F0 F
  fn : ∀ a o, F a = some o → F0 a = some o ∨ H0 a = none ∨ ∃ ts, o = .tup ts
  len : ρ.length = σ.length
  val : ∀ (i : Nat) d, ρ[i]? = some (.val d) → ∃ v, σ[i]? = some (some v) ∧ Rep C S F d v
  own : ∀ (i : Nat) d, ρ[i]? = some (.own d) → ∃ a, σ[i]? = some (some (.ref a)) ∧ Own C S H0 F H d a
  dis : ∀ (i j : Nat) d e a, ρ[i]? = some (.own d) → ρ[j]? = some (.own e) → σ[i]? = some (some (.ref a)) → σ[j]? = some (some (.ref a)) → i = j
  sto : Sto S F H
/-- no own slot holds a -/
def NoSlot (σ : L2.St) (ρ : En) (a : Addr) : Prop := ∀ (i : Nat) d, ρ[i]? = some (.own d) → σ[i]? ≠ some (some (.ref a))
/-- how an expression leaves the state -/
structure Tr (S : SG) (ρ ρ' : En) (σ : L2.St) (F H F' H' : Hp) : Prop where
  f : Sub F F'
  dom : ∀ a, H a ≠ none → H' a ≠ none
  keep : ∀ a o, H a = some o → a ≠ S.p → NoSlot σ ρ a → H' a = some o
  owns : ∀ (i : Nat) d', ρ'[i]? = some (.own d') → ∃ d, ρ[i]? = some (.own d)
section
variable {C : CT} {S : SG} {F0 H0 F H F' H' F'' H'' : Hp} {σ : L2.St} {ρ ρ' ρ'' : En} {a : Addr} {d : D} {v : V}
theorem Tr.refl : Tr S ρ ρ σ F H F H := ⟨Sub.refl F, fun _ h => h, fun _ _ h _ _ => h, fun _ d h => ⟨d, h⟩⟩
theorem Tr.noslot (t : Tr S ρ ρ' σ F H F' H') (n : NoSlot σ ρ a) : NoSlot σ ρ' a := fun i d e => by
  obtain ⟨d', e'⟩ := t.owns i d e
  exact n i d' e'
theorem Tr.trans (t : Tr S ρ ρ' σ F H F' H') (u : Tr S ρ' ρ'' σ F' H' F'' H'') : Tr S ρ ρ'' σ F H F'' H'' where
  f := t.f.trans u.f
  dom := fun a h => u.dom a (t.dom a h)
  keep := fun a o h hp n => u.keep a o (t.keep a o h hp n) hp (t.noslot n)
  owns := fun i d e => by
    obtain ⟨d1, e1⟩ := u.owns i d e
    exact t.owns i d1 e1
theorem OK.new (I : OK C S F0 H0 F H σ ρ) (h : H a = none) : H0 a = none ∧ a ≠ S.p ∧ F a = none := by
  have hp : a ≠ S.p := fun e => I.sto.has (e ▸ h)
  refine ⟨?_, hp, I.sub.none h⟩
  cases q : H0 a with
  | none => rfl
  | some o => rw [I.fr a o hp q] at h; cases h
theorem OK.noslot (I : OK C S F0 H0 F H σ ρ) (h : H a = none) : NoSlot σ ρ a := fun i d e q => by
  obtain ⟨b, e1, _, _, _, k⟩ := I.own i d e
  rw [e1] at q
  cases q
  obtain ⟨o, z, _⟩ := k
  rw [h] at z; cases z
/-- a new object, frozen at once (a tuple) -/
theorem OK.newF (I : OK C S F0 H0 F H σ ρ) (h : H a = none) (o : HO) : OK C S F0 H0 (upd F a o) (upd H a o) σ ρ where
  sub := fun b u e => by
    by_cases hb : b = a
    · subst hb; rw [upd_same] at e ⊢; exact e
    · rw [upd_ne hb] at e ⊢; exact I.sub b u e
  fr := fun b u hb e => by
    have hx : b ≠ a := ne_of_none e (I.new h).1
    rw [upd_ne hx]; exact I.fr b u hb e
  p0 := I.p0
  f0 := I.f0.trans (Sub.upd (I.new h).2.2)
  fn := fun b u e => by
    by_cases hb : b = a
    · subst hb; exact .inr (.inl (I.new h).1)
    · rw [upd_ne hb] at e; exact I.fn b u e
  len := I.len
  val := fun i d e => by
    obtain ⟨v, e1, r⟩ := I.val i d e
    exact ⟨v, e1, r.mono (Sub.upd (I.new h).2.2)⟩
  own := fun i d e => by
    obtain ⟨b, e1, h0, f, hp, k⟩ := I.own i d e
    have hb : b ≠ a := fun z => by subst z; exact I.noslot h i d e e1
    obtain ⟨o', z, r⟩ := k
    exact ⟨b, e1, h0, by rw [upd_ne hb]; exact f, hp, o', by rw [upd_ne hb]; exact z, r.mono (Sub.upd (I.new h).2.2)⟩
  dis := I.dis
  sto := by
    obtain ⟨a', r, l, t, s, z, b⟩ := I.sto.st
    exact ⟨(Sub.upd (I.new h).2.2) _ _ I.sto.cells, by rw [upd_ne (Ne.symm (I.new h).2.1)]; exact I.sto.free, I.sto.len, a', r, l, t, s, by rw [upd_ne (Ne.symm (I.new h).2.1)]; exact z, b⟩
theorem Tr.newF (h : H a = none) (hf : F a = none) (o : HO) : Tr S ρ ρ σ F H (upd F a o) (upd H a o) where
  f := Sub.upd hf
  dom := fun b hb => by
    have hx : b ≠ a := fun z => by subst z; exact hb h
    rw [upd_ne hx]; exact hb
  keep := fun b u e _ _ => by
    have hx : b ≠ a := ne_of_none e h
    rw [upd_ne hx]
    exact e
  owns := fun _ d e => ⟨d, e⟩
/-- a new object, not frozen (a list) -/
theorem OK.newO (I : OK C S F0 H0 F H σ ρ) (h : H a = none) (o : HO) : OK C S F0 H0 F (upd H a o) σ ρ where
  sub := I.sub.trans (Sub.upd h)
  fr := fun b u hb e => (Sub.upd h) b u (I.fr b u hb e)
  p0 := I.p0
  f0 := I.f0
  fn := I.fn
  len := I.len
  val := I.val
  own := fun i d e => by
    obtain ⟨b, e1, h0, f, hp, k⟩ := I.own i d e
    obtain ⟨o', z, r⟩ := k
    exact ⟨b, e1, h0, f, hp, o', (Sub.upd h) _ _ z, r⟩
  dis := I.dis
  sto := by
    obtain ⟨a', r, l, t, s, z, b⟩ := I.sto.st
    exact ⟨I.sto.cells, I.sto.free, I.sto.len, a', r, l, t, s, (Sub.upd h) _ _ z, b⟩
theorem Tr.newO (h : H a = none) (o : HO) : Tr S ρ ρ σ F H F (upd H a o) where
  f := Sub.refl F
  dom := fun b hb => by
    have hx : b ≠ a := fun z => by subst z; exact hb h
    rw [upd_ne hx]; exact hb
  keep := fun b u e _ _ => (Sub.upd h) b u e
  owns := fun _ d e => ⟨d, e⟩

/-! ### results -/
/-- what an expression gave, weakly: to be looked at or frozen -/
def RRep (C : CT) (S : SG) (H0 F H : Hp) (σ : L2.St) (ρ : En) (r : R) (v : V) : Prop :=
  match r with
  | .val d => Rep C S F d v
  | .tmp d => ∃ a, v = .ref a ∧ H0 a = none ∧ a ≠ S.p ∧ NoSlot σ ρ a ∧ ∃ o, H a = some o ∧ Top C S F d o
  | .var i _ => σ[i]? = some (some v)
/-- .. strongly: a new thing is frozen by nobody -/
def RFresh (F : Hp) (ρ : En) (r : R) (v : V) : Prop :=
  match r with
  | .tmp _ => ∀ a, v = .ref a → F a = none
  | .var i d => ρ[i]? = some (.own d)
  | _ => True
theorem RFresh.lv {F : Hp} {ρ : En} {r : R} {v : V} (h : RFresh F ρ r v) : r.lv ρ True := by
  cases r with
  | var i d => exact ⟨.inl h, trivial⟩
  | _ => trivial
theorem RRep.tr {r : R} (h : RRep C S H0 F H σ ρ r v) (t : Tr S ρ ρ' σ F H F' H') : RRep C S H0 F' H' σ ρ' r v := by
  cases r with
  | val d => exact Rep.mono t.f d v h
  | tmp d =>
    obtain ⟨a, e, h0, hp, n, k⟩ := h
    obtain ⟨o, z, r⟩ := k
    exact ⟨a, e, h0, hp, t.noslot n, o, t.keep a _ z hp n, r.mono t.f⟩
  | var i d => exact h
/-- a datum to be looked at -/
def View (C : CT) (S : SG) (F H : Hp) (d : D) (v : V) : Prop :=
  match d.ownable with
  | true => ∃ a o, v = .ref a ∧ H a = some o ∧ Top C S F d o
  | false => Rep C S F d v
theorem View.of (I : Sub F H) (h : Rep C S F d v) : View C S F H d v := by
  unfold View
  cases q : d.ownable with
  | true =>
    obtain ⟨a, o, e, q, r⟩ := (Rep.top q).mp h
    exact ⟨a, o, e, I _ _ q, r⟩
  | false => exact h
theorem View.top {a : Addr} {o : HO} (z : H a = some o) (r : Top C S F d o) : View C S F H d (.ref a) := by
  unfold View
  rw [r.own]
  exact ⟨a, o, rfl, z, r⟩
theorem view_of {r : R} {P : Prop} (I : OK C S F0 H0 F H σ ρ) (h : RRep C S H0 F H σ ρ r v) (l : r.lv ρ P) : View C S F H r.d v ∧ P := by
  cases r with
  | val d => exact ⟨View.of I.sub h, l⟩
  | tmp d =>
    obtain ⟨a, e, h0, hp, n, k⟩ := h
    obtain ⟨o, z, r⟩ := k
    subst e
    exact ⟨View.top z r, l⟩
  | var i d =>
    have h' : σ[i]? = some (some v) := h
    obtain ⟨l, p⟩ := l
    refine ⟨?_, p⟩
    rcases l with l | l
    · obtain ⟨a, e1, h0, f, hp, k⟩ := I.own i d l
      rw [h'] at e1
      have e2 : v = .ref a := by simpa using e1
      obtain ⟨o, z, r⟩ := k
      subst e2
      exact View.top z r
    · obtain ⟨w, e1, r⟩ := I.val i d l
      rw [h'] at e1
      have e2 : v = w := by simpa using e1
      rw [e2]
      exact View.of I.sub r
theorem get_set {α : Type} {l : List α} {i j : Nat} {x : α} {y : α} (h : (l.set i x)[j]? = some y) : (j = i ∧ y = x) ∨ (j ≠ i ∧ l[j]? = some y) := by
  by_cases e : i = j
  · subst e
    by_cases hl : i < l.length
    · rw [List.getElem?_set_self hl] at h
      exact .inl ⟨rfl, by simpa using h.symm⟩
    · rw [List.getElem?_eq_none (by simpa using hl)] at h
      cases h
  · rw [List.getElem?_set_ne e] at h
    exact .inr ⟨fun z => e z.symm, h⟩
/-- a list of nobody's slot is frozen -/
theorem OK.frz {ho : HO} (I : OK C S F0 H0 F H σ ρ) (h0 : H0 a = none) (hp : a ≠ S.p) (z : H a = some ho) (hn : NoSlot σ ρ a) :
    ∃ F', OK C S F0 H0 F' H σ ρ ∧ Sub F F' ∧ F' a = some ho ∧ (∀ b, b ≠ a → F' b = F b) := by
  cases q : F a with
  | some o =>
    have e := I.sub a o q
    rw [z] at e
    cases e
    exact ⟨F, I, Sub.refl F, q, fun _ _ => rfl⟩
  | none =>
    refine ⟨upd F a ho, ⟨fun b u e => ?_, I.fr, I.p0, I.f0.trans (Sub.upd q), fun b u e => ?_, I.len, fun i d e => ?_, fun i d e => ?_, I.dis, ?_⟩, Sub.upd q, upd_same, fun b hb => upd_ne hb⟩
    · by_cases hb : b = a
      · subst hb; rw [upd_same] at e; rw [← e]; exact z
      · rw [upd_ne hb] at e; exact I.sub b u e
    · by_cases hb : b = a
      · subst hb; exact .inr (.inl h0)
      · rw [upd_ne hb] at e; exact I.fn b u e
    · obtain ⟨v, e1, r⟩ := I.val i d e
      exact ⟨v, e1, r.mono (Sub.upd q)⟩
    · obtain ⟨b, e1, h0', f, hp', k⟩ := I.own i d e
      have hb : b ≠ a := fun w => by subst w; exact hn i d e e1
      obtain ⟨o', w, r⟩ := k
      exact ⟨b, e1, h0', by rw [upd_ne hb]; exact f, hp', o', w, r.mono (Sub.upd q)⟩
    · exact ⟨(Sub.upd q) _ _ I.sto.cells, by rw [upd_ne (Ne.symm hp)]; exact I.sto.free, I.sto.len, I.sto.st⟩
/-- the slot i is owned no more -/
theorem OK.val_of_own {i : Nat} {w : V} (I : OK C S F0 H0 F H σ ρ) (e : σ[i]? = some (some w)) (r : Rep C S F d w) : OK C S F0 H0 F H σ (ρ.set i (.val d)) where
  sub := I.sub
  fr := I.fr
  p0 := I.p0
  f0 := I.f0
  fn := I.fn
  len := by rw [List.length_set]; exact I.len
  val := fun j d' h => by
    rcases get_set h with ⟨rfl, z⟩ | ⟨_, z⟩
    · cases z
      exact ⟨w, e, r⟩
    · exact I.val j d' z
  own := fun j d' h => by
    rcases get_set h with ⟨_, z⟩ | ⟨_, z⟩
    · cases z
    · exact I.own j d' z
  dis := fun j k d' e' b h1 h2 => by
    rcases get_set h1 with ⟨_, z⟩ | ⟨_, z⟩
    · cases z
    · rcases get_set h2 with ⟨_, z2⟩ | ⟨_, z2⟩
      · cases z2
      · exact I.dis j k d' e' b z z2
  sto := I.sto
theorem owns_set {i : Nat} {ρ : En} (h : ∀ e, d ≠ e ∨ True) : ∀ (j : Nat) d', (ρ.set i (.val d))[j]? = some (.own d') → ∃ e, ρ[j]? = some (.own e) := fun j d' h => by
  rcases get_set h with ⟨_, z⟩ | ⟨_, z⟩
  · cases z
  · exact ⟨d', z⟩
/-- a slot is forgotten -/
theorem OK.un (I : OK C S F0 H0 F H σ ρ) (i : Nat) : OK C S F0 H0 F H σ (ρ.set i .un) where
  sub := I.sub
  fr := I.fr
  p0 := I.p0
  f0 := I.f0
  fn := I.fn
  len := by rw [List.length_set]; exact I.len
  val := fun j d' h => by
    rcases get_set h with ⟨_, z⟩ | ⟨_, z⟩
    · cases z
    · exact I.val j d' z
  own := fun j d' h => by
    rcases get_set h with ⟨_, z⟩ | ⟨_, z⟩
    · cases z
    · exact I.own j d' z
  dis := fun j k d' e' b h1 h2 => by
    rcases get_set h1 with ⟨_, z⟩ | ⟨_, z⟩
    · cases z
    · rcases get_set h2 with ⟨_, z2⟩ | ⟨_, z2⟩
      · cases z2
      · exact I.dis j k d' e' b z z2
  sto := I.sto
/-- FREEZE a result: its datum stands in a greater frozen part -/
theorem freeze {r : R} {P : Prop} (I : OK C S F0 H0 F H σ ρ) (h : RRep C S H0 F H σ ρ r v) (l : r.lv ρ P) :
    ∃ F', OK C S F0 H0 F' H σ (r.fz ρ) ∧ Tr S ρ (r.fz ρ) σ F H F' H ∧ Rep C S F' r.d v ∧ P := by
  cases r with
  | val d => exact ⟨F, I, Tr.refl, h, l⟩
  | tmp d =>
    obtain ⟨a, e, h0, hp, n, o, z, r⟩ := h
    obtain ⟨F', I', s, q, _⟩ := I.frz h0 hp z n
    exact ⟨F', I', ⟨s, fun _ x => x, fun b u hb _ _ => hb, fun _ d e => ⟨d, e⟩⟩, (Rep.top r.own).mpr ⟨a, o, e, q, r.mono s⟩, l⟩
  | var i d =>
    have h' : σ[i]? = some (some v) := h
    obtain ⟨l, p⟩ := l
    have ow : ∀ (j : Nat) d', (ρ.set i (.val d))[j]? = some (.own d') → ∃ e, ρ[j]? = some (.own e) := fun j d' e => by
      rcases get_set e with ⟨_, z⟩ | ⟨_, z⟩
      · cases z
      · exact ⟨d', z⟩
    rcases l with l | l
    · obtain ⟨a, e1, h0, f, hp, k⟩ := I.own i d l
      have e2 : v = .ref a := by rw [h'] at e1; simpa using e1
      · obtain ⟨o, z, r⟩ := k
        have n : NoSlot σ (ρ.set i .un) a := fun j d' e q => by
          rcases get_set e with ⟨_, w⟩ | ⟨hj, w⟩
          · cases w
          · exact hj (I.dis j i d' _ a w l q e1)
        obtain ⟨F', I', s, q, _⟩ := (I.un i).frz h0 hp z n
        have rp : Rep C S F' d v := (Rep.top r.own).mpr ⟨a, o, e2, q, r.mono s⟩
        have I2 := I'.val_of_own h' rp
        rw [List.set_set] at I2
        exact ⟨F', I2, ⟨s, fun _ x => x, fun b u hb _ _ => hb, ow⟩, rp, p⟩
    · obtain ⟨w, e1, r⟩ := I.val i d l
      have e2 : v = w := by rw [h'] at e1; simpa using e1
      subst e2
      exact ⟨F, I.val_of_own h' r, ⟨Sub.refl F, fun _ x => x, fun b u hb _ _ => hb, ow⟩, r, p⟩
/-- results of a list of expressions -/
def RReps (C : CT) (S : SG) (H0 F H : Hp) (σ : L2.St) (ρ : En) : List R → List V → Prop
  | [], vs => vs = []
  | r :: rs, vs => ∃ v us, vs = v :: us ∧ RRep C S H0 F H σ ρ r v ∧ RReps C S H0 F H σ ρ rs us
theorem RReps.tr : ∀ {rs : List R} {vs : List V}, RReps C S H0 F H σ ρ rs vs → Tr S ρ ρ' σ F H F' H' → RReps C S H0 F' H' σ ρ' rs vs
  | [], _, h, _ => h
  | r :: rs, _, h, t => by
    obtain ⟨v, us, e, h1, h2⟩ := h
    exact ⟨v, us, e, h1.tr t, RReps.tr h2 t⟩
/-- data to be looked at -/
def Views (C : CT) (S : SG) (F H : Hp) : List D → List V → Prop
  | [], vs => vs = []
  | d :: ds, vs => ∃ v us, vs = v :: us ∧ View C S F H d v ∧ Views C S F H ds us
theorem views_of {P : Prop} (I : OK C S F0 H0 F H σ ρ) : ∀ {rs : List R} {vs : List V}, RReps C S H0 F H σ ρ rs vs → lvs rs ρ P → Views C S F H (rs.map R.d) vs ∧ P
  | [], _, h, l => ⟨h, l⟩
  | r :: rs, _, h, l => by
    obtain ⟨v, us, e, h1, h2⟩ := h
    obtain ⟨q1, l⟩ := view_of I h1 (show r.lv ρ (lvs rs ρ P) from l)
    obtain ⟨q2, p⟩ := views_of I h2 l
    exact ⟨⟨v, us, e, q1, q2⟩, p⟩
theorem lv_iff {r : R} {P : Prop} : r.lv ρ P ↔ r.lv ρ True ∧ P := by
  cases r with
  | var i d => exact ⟨fun ⟨a, b⟩ => ⟨⟨a, trivial⟩, b⟩, fun ⟨⟨a, _⟩, b⟩ => ⟨a, b⟩⟩
  | _ => exact ⟨fun h => ⟨trivial, h⟩, fun h => h.2⟩
/-- what stood in a slot stands there behind the freezing of another result -/
theorem lv_fz {r q : R} {P : Prop} (hq : q.lv ρ True) (h : r.lv ρ P) : r.lv (q.fz ρ) P := by
  cases r with
  | var i d =>
    obtain ⟨l, p⟩ := h
    refine ⟨?_, p⟩
    cases q with
    | var j e =>
      obtain ⟨k, _⟩ := hq
      show (ρ.set j (.val e))[i]? = _ ∨ (ρ.set j (.val e))[i]? = _
      by_cases hj : j = i
      · subst hj
        have hl : j < ρ.length := by
          rcases k with k | k <;> exact (List.getElem?_eq_some_iff.mp k).1
        have e2 : e = d := by
          rcases k with k | k <;> rcases l with l | l <;> (rw [k] at l; cases l) <;> rfl
        subst e2
        exact .inr (List.getElem?_set_self hl)
      · rw [List.getElem?_set_ne hj]
        exact l
    | _ => exact l
  | _ => exact h
theorem lvs_iff : ∀ {rs : List R} {ρ : En} {P : Prop}, lvs rs ρ P ↔ (∀ r ∈ rs, r.lv ρ True) ∧ P
  | [], ρ, P => ⟨fun h => ⟨(fun _ z => nomatch z), h⟩, fun h => h.2⟩
  | r :: rs, ρ, P => by
    show r.lv ρ (lvs rs ρ P) ↔ _
    rw [lv_iff, lvs_iff]
    constructor
    · rintro ⟨a, b, c⟩
      exact ⟨fun q hq => by rcases List.mem_cons.mp hq with rfl | hq; exact a; exact b q hq, c⟩
    · rintro ⟨a, c⟩
      exact ⟨a r List.mem_cons_self, fun q hq => a q (List.mem_cons_of_mem _ hq), c⟩
theorem freezes : ∀ {rs : List R} {vs : List V} {F : Hp} {ρ : En}, OK C S F0 H0 F H σ ρ → RReps C S H0 F H σ ρ rs vs → (∀ r ∈ rs, r.lv ρ True) →
    ∃ F', OK C S F0 H0 F' H σ (fzs rs ρ) ∧ Tr S ρ (fzs rs ρ) σ F H F' H ∧ Reps C S F' (rs.map R.d) vs
  | [], _, F, ρ, I, h, _ => ⟨F, I, Tr.refl, h⟩
  | r :: rs, _, F, ρ, I, h, l => by
    obtain ⟨v, us, e, h1, h2⟩ := h
    subst e
    obtain ⟨F1, I1, t1, r1, _⟩ := freeze (P := True) I h1 (l r List.mem_cons_self)
    obtain ⟨F2, I2, t2, r2⟩ := freezes I1 (h2.tr t1) fun q hq => lv_fz (l r List.mem_cons_self) (l q (List.mem_cons_of_mem _ hq))
    exact ⟨F2, I2, t1.trans t2, .cons (r1.mono t2.f) r2⟩
end
end VL
set_option maxHeartbeats 4000000
/-! VLbs: sorted(..) of any many tuples of ints and texts. -/
namespace VL
open PySem PySem.Spec PyProof.Rows L2
theorem items_of {sh : Nat → Bool} : ∀ {ks : List L2.Key} {us : List Value} (i : Nat), Vals (ks.map kV) us → shp sh i ks → tupItems sh i us = some (ks.map itm)
  | [], us, i, h, _ => by
    cases h
    simp [tupItems]
  | .inl n :: ks, us, i, h, hs => by
    cases h with
    | cons r rr =>
      obtain ⟨k, rfl⟩ := r
      obtain ⟨h1, h2⟩ := hs
      have ih := items_of (i + 1) rr h2
      simp only [tupItems, h1]
      rw [if_neg Bool.false_ne_true, ih]; rfl
  | .inr s :: ks, us, i, h, hs => by
    cases h with
    | cons r rr =>
      obtain ⟨k, rfl⟩ := r
      obtain ⟨h1, h2⟩ := hs
      have ih := items_of (i + 1) rr h2
      simp only [tupItems, h1]
      rw [if_pos trivial, ih]; rfl
section
variable {X : Cx}
def TupK (K : PySem.W.Frag) (H : Hp) (x : V) (ks : List L2.Key) : Prop := ∃ t, x = V.ref t ∧ SqT K H t (ks.map kV)
theorem tupK_raw {pins : List (Addr × Obj)} {σ : L2.St} {H : Hp} {s : Shared} {t : Addr} {ks : List L2.Key} {sh : Nat → Bool} (I : Inv X pins σ H s) (h : SqT X.K H t (ks.map kV)) (hne : ks ≠ []) (hs : shp sh 0 ks) :
    G.tupKeyC s.heap sh (.ref t) = some (ks.map itm) ∧ ∃ f, PyProof.Rows.TupOf s.heap sh (.ref t) f := by
  obtain ⟨its, rv, ⟨o, ho, hc, n, hd⟩, _⟩ := I.tuple h
  have hi := items_of 0 rv hs
  refine ⟨?_, ?_⟩
  · unfold G.tupKeyC
    have e1 : G.isTupObj s.heap (.ref t) = true := by simp [G.isTupObj, ho, hc]
    rw [if_pos e1]
    simp only [tupKey, ho, hd]
    simpa using hi
  · cases ks with
    | nil => exact absurd rfl hne
    | cons k ks =>
      cases rv with
      | @cons _ u _ us r rr =>
        refine ⟨u, t, o, _, _, rfl, ho, hc, hd, by simp, fun h0 => ?_, fun h0 => ?_⟩
        · cases k with
          | inl i => obtain ⟨k, rfl⟩ := r; exact ⟨_, _, rfl⟩
          | inr x => have := hs.1; rw [h0] at this; cases this
        · cases k with
          | inl i => have := hs.1; rw [h0] at this; cases this
          | inr x => obtain ⟨k, rfl⟩ := r; exact ⟨_, _, rfl⟩
theorem tupsOf_ex {h : Heap} {sh : Nat → Bool} : ∀ {vs : List Value}, (∀ v ∈ vs, ∃ f, PyProof.Rows.TupOf h sh v f) → ∃ fs, TupsOf h sh vs fs
  | [], _ => ⟨[], .nil⟩
  | v :: vs, q => by
    obtain ⟨f, hf⟩ := q v List.mem_cons_self
    obtain ⟨fs, hfs⟩ := tupsOf_ex (vs := vs) fun w hw => q w (List.mem_cons_of_mem _ hw)
    exact ⟨f :: fs, .cons hf hfs⟩
/-- sorted(xs), xs a list of tuples of ints and texts, of one shape: a new list of the same, ascending -/
def rSortK (K : PySem.W.Frag) (sh : Nat → Bool) : List V → Hp → VK → Prop := fun vs H Q => ∃ (a : Addr) (xs : List V), vs = [V.ref a] ∧ SqL K H a xs ∧ (∀ x ∈ xs, ∃ ks, TupK K H x ks ∧ ks ≠ [] ∧ shp sh 0 ks) ∧
  ∀ (ys : List V) (p : Addr), ys.Perm xs → ys.Pairwise (fun x y => ∀ n m, TupK K H x n → TupK K H y m → ltK m n = false) → H p = none → Q (.ref p) (upd H p (.lst ys))
theorem tupK_inj {pins : List (Addr × Obj)} {σ : L2.St} {H : Hp} {s : Shared} {t : Addr} {ks ms : List L2.Key} (I : Inv X pins σ H s) (h : SqT X.K H t (ks.map kV)) (h2 : SqT X.K H t (ms.map kV)) : ks = ms := by
  have e := I.tuple_inj h h2
  have inj : ∀ a b : L2.Key, kV a = kV b → a = b := fun a b z => by
    cases a <;> cases b <;> cases z <;> rfl
  exact (List.map_inj_right inj).mp e
theorem cr_sortK {sh : Nat → Bool} : CallR X (.builtin "sorted") (rSortK X.K sh) := by
  intro pins s σ H vs us Q I r h
  obtain ⟨a, xs, rfl, hs, hx, q⟩ := h
  obtain ⟨its, rv, hl, hz⟩ := I.list hs
  rw [Vals.ref1 r]
  obtain ⟨e1, e2⟩ := bkV_refs rv fun x m => by
    obtain ⟨ns, ⟨t, e, _⟩, _⟩ := hx x m
    exact ⟨t, e⟩
  have mem : ∀ v ∈ its, ∃ t ks, v = Value.ref t ∧ SqT X.K H t (ks.map kV) ∧ ks ≠ [] ∧ shp sh 0 ks := fun v hv => by
    obtain ⟨t, rfl⟩ := e2 v hv
    have hm : V.ref t ∈ xs := by
      rw [e1]
      exact List.mem_map.mpr ⟨_, hv, rfl⟩
    obtain ⟨ks, ⟨t', e, ht⟩, hn, hb⟩ := hx _ hm
    cases e
    exact ⟨t, ks, rfl, ht, hn, hb⟩
  obtain ⟨fs, hfs⟩ := tupsOf_ex (h := s.heap) (sh := sh) (vs := its) fun v hv => by
    obtain ⟨t, ks, rfl, ht, hn, hb⟩ := mem v hv
    exact (tupK_raw I ht hn hb).2
  refine PyProof.Rows.G.sorted_tups (vs := its) hl.isList hfs (fun v hv => ?_) (by rw [← rv.length]; exact hz) fun st' hp hsd _ => ?_
  · obtain ⟨t, ks, rfl, ht, hn, hb⟩ := mem v hv
    exact ⟨_, (tupK_raw I ht hn hb).1⟩
  · generalize harr : arrOf st' = arr at hp hsd
    have hpl : arr.toList.Perm (its.zip its) := by
      have := Array.perm_iff_toList_perm.mp hp
      rw [pairsOf_toList] at this
      exact this
    have hself : ∀ p ∈ arr.toList, p.1 = p.2 ∧ p.1 ∈ its := fun p hp' => mem_zip_self (hpl.mem_iff.mp hp')
    have hout : ((arr.map (·.2)).toList).Perm its := by
      rw [Array.toList_map]
      have := hpl.map (·.2)
      rwa [List.map_snd_zip (Nat.le_refl _)] at this
    have h3 : ∀ u ∈ (arr.map (·.2)).toList, ∃ a, u = Value.ref a := fun u hu => e2 u (hout.mem_iff.mp hu)
    obtain ⟨ep, he'⟩ := PyProof.Rows.sortedAll_at s.heap its (arr.map (·.2))
    have hpx : ((arr.map (·.2)).toList.map bkV).Perm xs := by
      rw [e1]
      exact hout.map bkV
    have hlen : ((arr.map (·.2)).toList.map bkV).length ≤ sizeLine := by
      rw [hpx.length_eq]
      exact hz
    refine ⟨.ref _, upd H (s.heap.objs.size + 1) (.lst ((arr.map (·.2)).toList.map bkV)), I.laid (t' := s.toks) (fun _ _ => PyProof.Rows.sortedAll_old) (Nat.le_succ _) ⟨hlen, (arr.map (·.2)).toList, ep, bkV_vals h3, he'⟩, rfl, q _ _ hpx ?_ (I.hok.fresh (Nat.le_succ _))⟩
    rw [List.pairwise_map, Array.toList_map, List.pairwise_map, List.pairwise_iff_getElem]
    intro i j hi hj hij n m hn hm
    obtain ⟨t, et, ht⟩ := hn
    obtain ⟨t', et', ht'⟩ := hm
    have hsz : (pairsOf its).size = arr.toList.length := by rw [hpl.length_eq, pairsOf_size]; simp
    have key : ∀ (k : Nat) (hk : k < arr.toList.length) (t : Addr) (n : List L2.Key), bkV (arr.toList[k]).2 = .ref t → SqT X.K H t (n.map kV) → KK (G.tupKindC s.heap sh) arr k = n.map itm := fun k hk t n et ht => by
      have hm := hself _ (List.getElem_mem hk)
      have eu := bkV_ref et
      obtain ⟨t2, ks, e3, ht2, hn2, hb2⟩ := mem _ hm.2
      have e4 : Value.ref t = Value.ref t2 := by rw [← eu, ← hm.1]; exact e3
      cases e4
      have : ks = n := tupK_inj I ht2 ht
      subst this
      unfold KK
      have e5 : arr[k]? = some arr.toList[k] := by rw [← Array.getElem?_toList, List.getElem?_eq_getElem hk]
      rw [e5]
      show ((G.tupKeyC s.heap sh (arr.toList[k]).1).getD []) = _
      rw [e3, (tupK_raw I ht2 hn2 hb2).1]; rfl
    have := hsd i j (Nat.le_of_lt hij) (by rw [hsz]; exact hj)
    rw [key i hi t n et ht, key j hj t' m et' ht'] at this
    exact this
end
end VL
set_option maxHeartbeats 4000000
/-! VLbt: tuple * int for any int. -/
namespace VL
open PySem PySem.Spec PyProof.Rows L2
theorem tuple_mul1 (l : Addr) (items : Array Value) (n : Nat) (dd : Option Addr) (sl : Array (Option Value)) (x : Int) (u : Tok) (c0 : (decide (x < -(2 ^ 63)) || decide (x ≥ 2 ^ 63)) = false) (c1 : (items.isEmpty || x == 1) = true) :
    Meets (Builtin.«tuple.__mul__» ⟨[.ref l, .int x u], []⟩) (fun _ R s => s.heap.get? l = some { cls := .type "tuple", dict := dd, data := .seq items n, slots := sl } ∧ R (.ok (.ret (Value.ref l))) s) :=
  .of_wp fun prog w A R s h => by
    obtain ⟨hp, g, d, tk, os⟩ := s
    obtain ⟨hl, h⟩ := h
    have f1 := AutoSeq1.idx_int
    have hT : Shared.TypeIs ⟨hp, g, d, tk, os⟩ (.ref l) "tuple" := ⟨_, hl, rfl⟩
    wp_walk using wpAny_loadPart' hl
    repeat (first
      | (refine wpAny_ite_false (decide_eq_false (by rw [c0]; exact Bool.false_ne_true)) ?_; wp_walk using wpAny_loadPart' hl)
      | (refine wpAny_ite_true (decide_eq_true c1) ?_; wp_walk using wpAny_loadPart' hl))
    exact ⟨_, rfl, h⟩
theorem tuple_mul0 (l : Addr) (items : Array Value) (n : Nat) (dd : Option Addr) (sl : Array (Option Value)) (x : Int) (u : Tok) (c0 : (decide (x < -(2 ^ 63)) || decide (x ≥ 2 ^ 63)) = false) (c1 : (items.isEmpty || x == 1) = false) (c2 : (decide (x ≤ 0) || items.isEmpty) = true) :
    Meets (Builtin.«tuple.__mul__» ⟨[.ref l, .int x u], []⟩) (fun _ R s => s.heap.get? l = some { cls := .type "tuple", dict := dd, data := .seq items n, slots := sl } ∧
      R (.ok (.ret (Value.ref s.heap.objs.size))) { s with heap := s.heap.push { cls := Value.type "tuple", data := Data.seq #[] }, toks := s.toks }) :=
  .of_wp fun prog w A R s h => by
    obtain ⟨hp, g, d, tk, os⟩ := s
    obtain ⟨hl, h⟩ := h
    have f1 := AutoSeq1.idx_int
    wp_walk using wpAny_loadPart' hl
    repeat (first
      | (refine wpAny_ite_false (decide_eq_false (by rw [c0]; exact Bool.false_ne_true)) ?_; wp_walk using wpAny_loadPart' hl)
      | (refine wpAny_ite_false (decide_eq_false (by rw [c1]; exact Bool.false_ne_true)) ?_; wp_walk using wpAny_loadPart' hl)
      | (refine wpAny_ite_true (decide_eq_true c2) ?_; wp_walk using wpAny_loadPart' hl))
    exact ⟨_, rfl, h⟩
def rRepA (K : PySem.W.Frag) : R2 := fun x y H Q => ∃ l k xs, x = .ref l ∧ y = .int k ∧ SqT K H l xs ∧ xs ≠ [] ∧ -(2 ^ 63) ≤ k ∧ k ≤ 1000 ∧ xs.length ≤ 1000 ∧ (k = 1 → Q (.ref l) H) ∧ (k ≠ 1 → ∀ p, H p = none → Q (.ref p) (upd H p (.tup (List.replicate k.toNat xs).flatten)))
section
variable {X : Cx}
theorem op_repA : OpR X (binaryOp .Mult) (rRepA X.K) := by
  intro pins s σ H x y v u Q I rx ry h
  obtain ⟨l, k, xs, rfl, rfl, hT, hne, h1, h2, hz, q1, q⟩ := h
  by_cases k2 : 2 ≤ k
  · exact op_repT pins s σ H _ _ v u Q I rx ry ⟨l, k, xs, rfl, rfl, hT, hne, k2, h2, hz, q (by omega)⟩
  cases rx
  obtain ⟨t, rfl⟩ := ry
  obtain ⟨its, r, ⟨⟨cls, dd, data, sl⟩, ho, hc, n, hd⟩, hs⟩ := I.tuple hT
  simp only at hc hd
  subst hc hd
  have hle : its.length = xs.length := r.length.symm
  have hn : its ≠ [] := fun e => hne (by
    rw [e] at hle
    exact List.eq_nil_of_length_eq_zero hle.symm)
  have hi : its.toArray.isEmpty = false := by
    cases its with
    | nil => exact absurd rfl hn
    | cons a b => rfl
  have c0 : (decide (k < -(2 ^ 63)) || decide (k ≥ 2 ^ 63)) = false := by
    rw [decide_eq_false (by omega), decide_eq_false (by omega)] <;> rfl
  by_cases k1 : k = 1
  · have c1 : (its.toArray.isEmpty || k == 1) = true := by
      rw [hi, Bool.false_or, k1]; rfl
    exact wpAny_binaryOp_repeat_ref (T := "tuple") (U := "int") (by decide) ⟨_, ho, rfl⟩ (fun s' => typeIs_int s' k t) noFill_tuple_mul F.fills_int_mul F.slot_int_rmul repeat_tuple F.slot_int_index.lookup
      (call_meets F.slot_int_rmul (typeIs_int s k t) F.entry_int_rmul (F.args_int_rmul_2 _ _) (int_rmul_tuple k t l its.toArray n dd sl)
        ⟨ho, rfl, ⟨_, ho, rfl⟩, call_meets F.slot_tuple_mul ⟨_, ho, rfl⟩ F.entry_tuple_mul (F.args_tuple_mul_2 _ _) (tuple_mul1 l its.toArray n dd sl k t c0 c1) ⟨ho, ⟨.ref l, H, I, rfl, q1 k1⟩⟩⟩)
  · have c1 : (its.toArray.isEmpty || k == 1) = false := by
      rw [hi, Bool.false_or]
      exact beq_eq_false_iff_ne.mpr k1
    have c2 : (decide (k ≤ 0) || its.toArray.isEmpty) = true := by
      rw [decide_eq_true (by omega)]; rfl
    have e0 : (List.replicate k.toNat xs).flatten = [] := by
      rw [show k.toNat = 0 by omega]; rfl
    refine wpAny_binaryOp_repeat_ref (T := "tuple") (U := "int") (by decide) ⟨_, ho, rfl⟩ (fun s' => typeIs_int s' k t) noFill_tuple_mul F.fills_int_mul F.slot_int_rmul repeat_tuple F.slot_int_index.lookup
      (call_meets F.slot_int_rmul (typeIs_int s k t) F.entry_int_rmul (F.args_int_rmul_2 _ _) (int_rmul_tuple k t l its.toArray n dd sl)
        ⟨ho, rfl, ⟨_, ho, rfl⟩, call_meets F.slot_tuple_mul ⟨_, ho, rfl⟩ F.entry_tuple_mul (F.args_tuple_mul_2 _ _) (tuple_mul0 l its.toArray n dd sl k t c0 c1 c2) ⟨ho, ?_⟩⟩)
    have q := q k1
    rw [e0] at q
    refine ⟨.ref s.heap.objs.size, _, I.laid (t' := s.toks) (o := .tup []) (fun b ob q => Heap.get?_push_of_some _ q) (Nat.le_refl _) ?_, rfl, q _ (I.hok.fresh (Nat.le_refl _))⟩
    exact ⟨by rw [sizeLine_eq]; decide, [], .nil, IsTup.new _ _⟩
end
end VL
set_option maxHeartbeats 4000000
/-! VLc: the operations on values over the kit's rules. -/
namespace VL
open PySem PySem.Spec PyProof.Rows L2

theorem lim_le : lim ≤ sizeLine := by decide
section
variable {C : CT} {S : SG} {F0 H0 F H F' H' : Hp} {σ : L2.St} {ρ : En} {a : Addr} {d : D} {v : V}
/-- what is to hold of every result that k takes -/
def Gives (C : CT) (S : SG) (F0 H0 F H : Hp) (σ : L2.St) (ρ : En) (k : R → Prop) (Q : VK) : Prop :=
  ∀ r v F' H', OK C S F0 H0 F' H' σ ρ → Tr S ρ ρ σ F H F' H' → RRep C S H0 F' H' σ ρ r v → RFresh F' ρ r v → k r → Q v H'
theorem Gives.val {k : R → Prop} {Q : VK} (g : Gives C S F0 H0 F H σ ρ k Q) (I : OK C S F0 H0 F H σ ρ) (hd : Rep C S F d v) (hk : k (.val d)) : Q v H :=
  g (.val d) v F H I Tr.refl hd trivial hk
theorem Gives.newT {k : R → Prop} {Q : VK} {ds : List D} {vs : List V} (g : Gives C S F0 H0 F H σ ρ k Q) (I : OK C S F0 H0 F H σ ρ) (h : H a = none) (r : Reps C S F ds vs) (hk : k (.val (.tup ds))) : Q (.ref a) (upd H a (.tup vs)) :=
  g (.val (.tup ds)) _ _ _ (I.newF h _) (Tr.newF h (I.new h).2.2 _) ⟨a, vs, rfl, upd_same, r.mono (Sub.upd (I.new h).2.2)⟩ trivial hk
theorem Gives.newL {k : R → Prop} {Q : VK} {ds : List D} {vs : List V} (g : Gives C S F0 H0 F H σ ρ k Q) (I : OK C S F0 H0 F H σ ρ) (h : H a = none) (r : Reps C S F ds vs) (hk : k (.tmp (.lst ds))) : Q (.ref a) (upd H a (.lst vs)) :=
  g (.tmp (.lst ds)) _ _ _ (I.newO h _) (Tr.newO h _) ⟨a, rfl, (I.new h).1, (I.new h).2.1, I.noslot h, _, upd_same, vs, rfl, r⟩ (fun b e => by cases e; exact (I.new h).2.2) hk
theorem View.int {i : Int} (h : View C S F H (.int i) v) : v = .int i := by
  have h' : Rep C S F (.int i) v := h
  unfold Rep at h'
  exact h'
theorem View.str {i : Str} (h : View C S F H (.str i) v) : v = .str i := by
  have h' : Rep C S F (.str i) v := h
  unfold Rep at h'
  exact h'
theorem View.bl {i : Bool} (h : View C S F H (.bl i) v) : v = .bl i := by
  have h' : Rep C S F (.bl i) v := h
  unfold Rep at h'
  exact h'
theorem View.non (h : View C S F H .non v) : v = .non := by
  have h' : Rep C S F .non v := h
  unfold Rep at h'
  exact h'
theorem View.tup {ds : List D} (s : Sub F H) (h : View C S F H (.tup ds) v) : ∃ a vs, v = .ref a ∧ SqT C.K H a vs ∧ Reps C S F ds vs := by
  have h' : Rep C S F (.tup ds) v := h
  unfold Rep at h'
  obtain ⟨a, vs, e, q, r⟩ := h'
  exact ⟨a, vs, e, .inl (.inl (s _ _ q)), r⟩
theorem View.tupH {ds : List D} (s : Sub F H) (h : View C S F H (.tup ds) v) : ∃ a vs, v = .ref a ∧ H a = some (.tup vs) ∧ Reps C S F ds vs := by
  have h' : Rep C S F (.tup ds) v := h
  unfold Rep at h'
  obtain ⟨a, vs, e, q, r⟩ := h'
  exact ⟨a, vs, e, s _ _ q, r⟩
theorem View.lst {ds : List D} (h : View C S F H (.lst ds) v) : ∃ a vs, v = .ref a ∧ H a = some (.lst vs) ∧ Reps C S F ds vs := by
  obtain ⟨a, o, e, z, vs, rfl, r⟩ := h
  exact ⟨a, vs, e, z, r⟩
theorem View.dicK {ks : List L2.Key} {ds : List D} (h : View C S F H (.dicK ks ds) v) : ∃ a vs, v = .ref a ∧ H a = some (.dK (ks.zip vs)) ∧ vs.length = ks.length ∧ Reps C S F ds vs := by
  obtain ⟨a, o, e, z, vs, rfl, l, r⟩ := h
  exact ⟨a, vs, e, z, l, r⟩
theorem View.dicT {ks : List (List L2.Key)} {ds : List D} (h : View C S F H (.dicT ks ds) v) : ∃ a vs, v = .ref a ∧ H a = some (.dT (ks.zip vs)) ∧ vs.length = ks.length ∧ Reps C S F ds vs := by
  obtain ⟨a, o, e, z, vs, rfl, l, r⟩ := h
  exact ⟨a, vs, e, z, l, r⟩
theorem rep_int {i : Int} : Rep C S F (.int i) (.int i) := by unfold Rep; rfl
theorem rep_str {i : Str} : Rep C S F (.str i) (.str i) := by unfold Rep; rfl
theorem rep_bl {i : Bool} : Rep C S F (.bl i) (.bl i) := by unfold Rep; rfl
theorem rep_non : Rep C S F .non .non := by unfold Rep; rfl
theorem View.rep {ds : List D} (h : View C S F H (.tup ds) v) : Rep C S F (.tup ds) v := h

/-! ### dicts -/
section
variable {κ : Type} [DecidableEq κ]
theorem valV_zip (k : κ) : ∀ (ks : List κ) (vs : List V), valV (ks.zip vs) k = dget ks vs k
  | [], vs => by
    show valV ([] : List (κ × V)) k = dget [] vs k
    unfold dget
    exact valV_nil
  | k' :: ks, [] => by
    show valV ([] : List (κ × V)) k = dget (k' :: ks) [] k
    unfold dget
    exact valV_nil
  | k' :: ks, v :: vs => by
    rw [List.zip_cons_cons]
    unfold dget
    by_cases e : k' = k
    · rw [if_pos e]
      exact valV_pos (p := (k', v)) e
    · rw [if_neg e, ← valV_zip k ks vs]
      exact valV_neg (p := (k', v)) e
theorem any_zip (k : κ) : ∀ (ks : List κ) (vs : List V), vs.length = ks.length → ((ks.zip vs).any fun kv => decide (kv.1 = k)) = decide (k ∈ ks)
  | [], vs, _ => by simp
  | k' :: ks, [], h => by simp at h
  | k' :: ks, v :: vs, h => by
    rw [List.zip_cons_cons, List.any_cons, any_zip k ks vs (by simpa using h)]
    by_cases e : k' = k
    · subst e; simp
    · have e2 : ¬ k = k' := fun z => e z.symm
      simp [e, e2]
theorem map_zip1 (k : κ) (x : V) : ∀ (ks : List κ) (vs : List V), (ks.zip vs).map (fun kv => if kv.1 = k then (kv.1, x) else kv) = ks.zip (aset1 ks vs k x)
  | [], vs => by simp
  | k' :: ks, [] => by unfold aset1; simp
  | k' :: ks, v :: vs => by
    unfold aset1
    rw [List.zip_cons_cons, List.map_cons, map_zip1 k x ks vs, List.zip_cons_cons]
    by_cases e : k' = k
    · rw [if_pos e, if_pos e]
    · rw [if_neg e, if_neg e]
theorem putK_zip (k : κ) (x : V) (ks : List κ) (vs : List V) (h : vs.length = ks.length) : putK (ks.zip vs) k x = (kput ks k).zip (aset ks vs k x) := by
  unfold putK kput aset
  rw [any_zip k ks vs h]
  by_cases e : k ∈ ks
  · rw [if_pos (decide_eq_true e), if_pos e, if_pos e]
    exact map_zip1 k x ks vs
  · rw [decide_eq_false e, if_neg Bool.false_ne_true, if_neg e, if_neg e, List.zip_append h.symm] <;> rfl
theorem aset1_len {α : Type} (k : κ) (x : α) : ∀ (ks : List κ) (vs : List α), vs.length = ks.length → (aset1 ks vs k x).length = ks.length
  | [], vs, _ => by unfold aset1; rfl
  | k' :: ks, [], h => by simp at h
  | k' :: ks, v :: vs, h => by
    unfold aset1
    rw [List.length_cons, aset1_len k x ks vs (by simpa using h), List.length_cons]
theorem aset_len {α : Type} (k : κ) (x : α) (ks : List κ) (vs : List α) (h : vs.length = ks.length) : (aset ks vs k x).length = (kput ks k).length := by
  unfold aset kput
  by_cases e : k ∈ ks
  · rw [if_pos e, if_pos e, aset1_len k x ks vs h]
  · rw [if_neg e, if_neg e, List.length_append, List.length_append, h] <;> rfl
theorem Reps.aset1 {k : κ} (r1 : Rep C S F d v) : ∀ {ks : List κ} {ds : List D} {vs : List V}, Reps C S F ds vs → Reps C S F (VL.aset1 ks ds k d) (VL.aset1 ks vs k v)
  | [], ds, vs, h => by unfold VL.aset1; exact .nil
  | k' :: ks, [], vs, h => by unfold Reps at h; subst h; unfold VL.aset1; exact .nil
  | k' :: ks, e :: ds, vs, h => by
    unfold Reps at h
    obtain ⟨w, r, rfl, h1, h2⟩ := h
    unfold VL.aset1
    refine .cons ?_ (Reps.aset1 r1 h2)
    by_cases e : k' = k
    · rw [if_pos e, if_pos e]; exact r1
    · rw [if_neg e, if_neg e]; exact h1
theorem Reps.aset {k : κ} {ks : List κ} {ds : List D} {vs : List V} (r1 : Rep C S F d v) (h : Reps C S F ds vs) : Reps C S F (VL.aset ks ds k d) (VL.aset ks vs k v) := by
  unfold VL.aset
  by_cases e : k ∈ ks
  · rw [if_pos e, if_pos e]; exact Reps.aset1 r1 h
  · rw [if_neg e, if_neg e]; exact h.app (.cons r1 .nil)
theorem Reps.dget {k : κ} : ∀ {ks : List κ} {ds : List D} {vs : List V}, Reps C S F ds vs → (∀ d, VL.dget ks ds k = some d → ∃ v, VL.dget ks vs k = some v ∧ Rep C S F d v) ∧ (VL.dget ks ds k = none → VL.dget ks vs k = none)
  | [], ds, vs, h => by unfold VL.dget; exact ⟨(fun d z => nomatch z), fun _ => rfl⟩
  | k' :: ks, [], vs, h => by unfold Reps at h; subst h; unfold VL.dget; exact ⟨(fun d z => nomatch z), fun _ => rfl⟩
  | k' :: ks, e :: ds, vs, h => by
    unfold Reps at h
    obtain ⟨w, r, rfl, h1, h2⟩ := h
    unfold VL.dget
    by_cases e : k' = k
    · rw [if_pos e, if_pos e]; exact ⟨fun d z => by cases z; exact ⟨w, rfl, h1⟩, fun z => by cases z⟩
    · rw [if_neg e, if_neg e]; exact Reps.dget h2
theorem Reps.dsome {k : κ} {ks : List κ} {ds : List D} {vs : List V} (h : Reps C S F ds vs) : (VL.dget ks vs k).isSome = (VL.dget ks ds k).isSome := by
  obtain ⟨a, b⟩ := Reps.dget (k := k) (ks := ks) h
  cases q : VL.dget ks ds k with
  | none => rw [b q] <;> rfl
  | some d =>
    obtain ⟨v, e, _⟩ := a d q
    rw [e] <;> rfl
end
theorem keyOf_rep {k : L2.Key} (e : keyOf d = some k) (h : Rep C S F d v) : v = kV k := by
  cases d <;> first | (cases e; done) | (unfold Rep at h; cases e; exact h)
theorem keysOf_reps : ∀ {ds : List D} {ks : List L2.Key} {vs : List V}, keysOf ds = some ks → Reps C S F ds vs → vs = ks.map kV
  | [], ks, vs, e, h => by unfold keysOf at e; unfold Reps at h; cases e; exact h
  | d :: ds, ks, vs, e, h => by
    unfold keysOf at e
    unfold Reps at h
    obtain ⟨w, r, rfl, h1, h2⟩ := h
    cases q : keyOf d with
    | none => rw [q] at e; cases e
    | some k =>
      cases q2 : keysOf ds with
      | none => rw [q, q2] at e; cases e
      | some ks' =>
        rw [q, q2] at e
        cases e
        rw [keyOf_rep q h1, keysOf_reps q2 h2] <;> rfl
theorem rep_key (k : L2.Key) : Rep C S F (keyD k) (kV k) := by
  cases k
  · exact rep_int
  · exact rep_str
theorem keyOf_scal {k : L2.Key} (e : keyOf d = some k) : d.scal = true := by
  cases d <;> first | (cases e; done) | rfl
theorem View.key {k : L2.Key} (e : keyOf d = some k) (h : View C S F H d v) : v = kV k := by
  cases d <;> first | (cases e; done) | exact keyOf_rep (C := C) (S := S) (F := F) e h
theorem View.keyT {ds : List D} {ks : List L2.Key} (s : Sub F H) (e : keysOf ds = some ks) (h : View C S F H (.tup ds) v) : ∃ b, v = .ref b ∧ H b = some (.tup (ks.map kV)) := by
  obtain ⟨b, us, rfl, z, r⟩ := h.tupH s
  rw [keysOf_reps e r] at z
  exact ⟨b, rfl, z⟩
/-- a tuple that stands somewhere is frozen -/
theorem OK.frzT {vs : List V} (I : OK C S F0 H0 F H σ ρ) (z : H a = some (.tup vs)) : ∃ F', OK C S F0 H0 F' H σ ρ ∧ Sub F F' ∧ F' a = some (.tup vs) := by
  cases q : F a with
  | some o =>
    have e := I.sub a o q
    rw [z] at e
    cases e
    exact ⟨F, I, Sub.refl F, q⟩
  | none =>
    have hp : a ≠ S.p := fun e => by
      obtain ⟨_, _, _, _, _, e2, _⟩ := I.sto.st
      rw [← e, z] at e2
      cases e2
    refine ⟨upd F a (.tup vs), ⟨fun b u e => ?_, I.fr, I.p0, I.f0.trans (Sub.upd q), fun b u e => ?_, I.len, fun i d e => ?_, fun i d e => ?_, I.dis, ?_⟩, Sub.upd q, upd_same⟩
    · by_cases hb : b = a
      · subst hb; rw [upd_same] at e; rw [← e]; exact z
      · rw [upd_ne hb] at e; exact I.sub b u e
    · by_cases hb : b = a
      · subst hb; rw [upd_same] at e; exact .inr (.inr ⟨vs, by cases e; rfl⟩)
      · rw [upd_ne hb] at e; exact I.fn b u e
    · obtain ⟨v, e1, r⟩ := I.val i d e
      exact ⟨v, e1, r.mono (Sub.upd q)⟩
    · obtain ⟨b, e1, h0', f, hp', o', w, r⟩ := I.own i d e
      have hb : b ≠ a := fun x => by subst x; rw [z] at w; cases w; exact r.ntup vs rfl
      exact ⟨b, e1, h0', by rw [upd_ne hb]; exact f, hp', o', w, r.mono (Sub.upd q)⟩
    · exact ⟨(Sub.upd q) _ _ I.sto.cells, by rw [upd_ne (Ne.symm hp)]; exact I.sto.free, I.sto.len, I.sto.st⟩
theorem OK.frzKeys (I : OK C S F0 H0 F H σ ρ) : ∀ {kvs : List (List L2.Key × V)} {bs : List Addr}, IsKeys H kvs bs → ∃ F', OK C S F0 H0 F' H σ ρ ∧ Sub F F' ∧ Reps C S F' (kvs.map fun p => .tup (p.1.map keyD)) (bs.map V.ref)
  | [], bs, h => by
    unfold IsKeys at h
    cases h
    exact ⟨F, I, Sub.refl F, .nil⟩
  | p :: kvs, bs, h => by
    unfold IsKeys at h
    cases h with
    | cons h1 h2 =>
      obtain ⟨F1, I1, s1, r1⟩ := OK.frzKeys I h2
      obtain ⟨F2, I2, s2, z⟩ := I1.frzT h1
      refine ⟨F2, I2, s1.trans s2, .cons ?_ (r1.mono s2)⟩
      unfold Rep
      exact ⟨_, _, rfl, z, Reps.mapL (fun k => rep_key k) _⟩
/-! ### two places -/
def rBin (C : CT) (op : Operator) : R2 := fun x y H Q => ∃ (S : SG) (F0 H0 F : Hp) (σ : L2.St) (ρ : En) (dx dy : D) (k : R → Prop), OK C S F0 H0 F H σ ρ ∧ View C S F H dx x ∧ View C S F H dy y ∧ vBin op dx dy k ∧ Gives C S F0 H0 F H σ ρ k Q
section
variable {X : Cx}
theorem op_powG : OpR X (binaryOp .Pow) (rI (fun i j => 0 ≤ j ∧ (Builtin.Int.intBits i : Int) * j ≤ 2 ^ 27) fun i j => .int (i ^ j.toNat)) := opI fun _ _ _ _ _ _ _ hc q => pow_int hc.1 hc.2 q
theorem op_shlG : OpR X (binaryOp .LShift) (rI (fun i j => 0 ≤ j ∧ (Builtin.Int.intBits i : Int) + j ≤ 2 ^ 27) fun i j => .int (i * 2 ^ j.toNat)) := opI fun _ _ _ _ _ _ _ hc q => lshift_int hc.1 hc.2 q
theorem MulOk.ok {i j : Int} (h : MulOk i j) : IntMulOk i j := by
  rcases h with h | h | h
  · exact CMulW.ok h
  · exact IntMulOk.of_left h
  · exact IntMulOk.of_right h
theorem op_mulG : OpR X (binaryOp .Mult) (rI MulOk fun i j => .int (i * j)) := opI fun _ _ _ _ _ _ _ hc q => mul_int q hc.ok
theorem op_bin (hK : X.K = C.K) (op : Operator) : OpR X (binaryOp op) (rBin C op) := by
  intro pins s σ' H x y v u Q I rx ry h
  obtain ⟨S, F0, H0, F, σ, ρ, dx, dy, k, O, hx, hy, hv, g⟩ := h
  unfold vBin at hv
  split at hv
  · cases hx.int; cases hy.int
    exact op_add pins s σ' H _ _ v u Q I rx ry ⟨_, _, rfl, rfl, g.val O rep_int hv⟩
  · cases hx.int; cases hy.int
    exact op_sub pins s σ' H _ _ v u Q I rx ry ⟨_, _, rfl, rfl, g.val O rep_int hv⟩
  · cases hx.int; cases hy.int
    exact op_mulG pins s σ' H _ _ v u Q I rx ry ⟨_, _, rfl, rfl, hv.1, g.val O rep_int hv.2⟩
  · cases hx.int; cases hy.int
    exact op_fdivW pins s σ' H _ _ v u Q I rx ry ⟨_, _, rfl, rfl, hv.1, g.val O rep_int hv.2⟩
  · cases hx.int; cases hy.int
    exact op_mod pins s σ' H _ _ v u Q I rx ry ⟨_, _, rfl, rfl, hv.1, g.val O rep_int hv.2⟩
  · cases hx.int; cases hy.int
    exact op_powG pins s σ' H _ _ v u Q I rx ry ⟨_, _, rfl, rfl, hv.1, g.val O rep_int hv.2⟩
  · cases hx.int; cases hy.int
    exact op_shlG pins s σ' H _ _ v u Q I rx ry ⟨_, _, rfl, rfl, hv.1, g.val O rep_int hv.2⟩
  · cases hx.int; cases hy.int
    exact op_shr pins s σ' H _ _ v u Q I rx ry ⟨_, _, rfl, rfl, hv.1, g.val O rep_int hv.2⟩
  · cases hx.int; cases hy.int
    exact op_and pins s σ' H _ _ v u Q I rx ry ⟨_, _, rfl, rfl, g.val O rep_int hv⟩
  · cases hx.int; cases hy.int
    exact op_or pins s σ' H _ _ v u Q I rx ry ⟨_, _, rfl, rfl, g.val O rep_int hv⟩
  · cases hx.str; cases hy.str
    exact op_add_str pins s σ' H _ _ v u Q I rx ry ⟨_, _, rfl, rfl, Nat.le_trans hv.1 lim_le, g.val O rep_str hv.2⟩
  · obtain ⟨a, vs, rfl, qa, ra⟩ := hx.tup O.sub
    obtain ⟨b, us, rfl, qb, rb⟩ := hy.tup O.sub
    refine op_catA pins s σ' H _ _ v u Q I rx ry ⟨a, b, vs, us, rfl, rfl, by rw [hK]; exact qa, by rw [hK]; exact qb, by rw [ra.len, rb.len]; exact Nat.le_trans hv.1 lim_le, fun e => ?_, fun _ e => ?_, fun _ _ p hp => g.newT O hp (ra.app rb) hv.2⟩
    · have e2 : (‹List D› : List D) = ‹List D› := rfl
      have l0 := ra.len
      subst e
      rename_i da db
      have : da = [] := by
        cases da with
        | nil => rfl
        | cons _ _ => simp at l0
      subst this
      exact g.val O hy.rep hv.2
    · have l0 := rb.len
      subst e
      rename_i da db _
      have : db = [] := by
        cases db with
        | nil => rfl
        | cons _ _ => simp at l0
      subst this
      rw [List.append_nil] at hv
      exact g.val O hx.rep hv.2
  · obtain ⟨a, vs, rfl, qa, ra⟩ := hx.lst
    obtain ⟨b, us, rfl, qb, rb⟩ := hy.lst
    exact op_cat pins s σ' H _ _ v u Q I rx ry ⟨a, b, vs, us, rfl, rfl, qa, qb, by rw [ra.len, rb.len]; exact Nat.le_trans hv.1 lim_le, fun p hp => g.newL O hp (ra.app rb) hv.2⟩
  · obtain ⟨a, vs, rfl, qa, ra⟩ := hx.tup O.sub
    cases hy.int
    obtain ⟨⟨h1, h2, h3, h4⟩, hk⟩ := hv
    refine op_repA pins s σ' H _ _ v u Q I rx ry ⟨a, _, vs, rfl, rfl, by rw [hK]; exact qa, fun e => h1 ?_, h2, h3, by rw [ra.len]; exact h4, fun e => ?_, fun _ p hp => g.newT O hp (ra.rep _) hk⟩
    · have l0 := ra.len
      subst e
      exact List.eq_nil_of_length_eq_zero (by simpa using l0.symm)
    · subst e
      have e1 : ∀ l : List D, (List.replicate (Int.toNat 1) l).flatten = l := fun l => by
        show [l].flatten = l
        simp
      rw [e1] at hk
      exact g.val O hx.rep hk
  · obtain ⟨a, vs, rfl, qa, ra⟩ := hx.lst
    cases hy.int
    obtain ⟨⟨h1, h2, h3⟩, hk⟩ := hv
    exact op_rep pins s σ' H _ _ v u Q I rx ry ⟨a, _, vs, rfl, rfl, qa, h1, h2, by rw [ra.len]; exact Nat.le_trans h3 lim_le, fun p hp => g.newL O hp (ra.rep _) hk⟩
  · exact hv.elim
theorem un_negV : UnR X (unaryOp .USub) (fun x H Q => ∃ (S : SG) (F : Hp) (d : D), View C S F H d x ∧ vNeg d fun e => ∀ v, Rep C S F e v → Q v H) := by
  intro pins s σ' H x v Q I rx h
  obtain ⟨S, F, d, hx, hv⟩ := h
  unfold vNeg at hv
  split at hv
  · cases hx.int
    exact un_neg pins s σ' H _ v Q I rx ⟨_, rfl, hv _ rep_int⟩
  · exact hv.elim

/-! ### comparisons -/
mutual
theorem dp_of (hs : Sub F H) : ∀ (d : D) (p : PyData) (v : V), D.py d = some p → Rep C S F d v → Dp C.K H v p
  | .non, p, v, e, h => by
    unfold D.py at e; unfold Rep at h; cases e; subst h; exact .non
  | .bl b, p, v, e, h => by
    unfold D.py at e; unfold Rep at h; cases e; subst h; exact .bl b
  | .int i, p, v, e, h => by
    unfold D.py at e; unfold Rep at h; cases e; subst h; exact .int i
  | .str i, p, v, e, h => by
    unfold D.py at e; unfold Rep at h; cases e; subst h; exact .str i
  | .tok, p, v, e, h => by unfold D.py at e; cases e
  | .tup ds, p, v, e, h => by
    unfold D.py at e; unfold Rep at h
    obtain ⟨a, vs, rfl, q, r⟩ := h
    cases z : D.pys ds with
    | none => rw [z] at e; cases e
    | some ps =>
      rw [z] at e
      cases e
      exact .tup (.inl (.inl (hs _ _ q))) (dps_of hs ds ps vs z r)
  | .lst ds, p, v, e, h => by
    unfold D.py at e; unfold Rep at h
    obtain ⟨a, vs, rfl, q, r⟩ := h
    cases z : D.pys ds with
    | none => rw [z] at e; cases e
    | some ps =>
      rw [z] at e
      cases e
      exact .lst (.of (hs _ _ q)) (dps_of hs ds ps vs z r)
  | .dicK _ _, p, v, e, h => by unfold D.py at e; cases e
  | .dicT _ _, p, v, e, h => by unfold D.py at e; cases e
  | .obj _ _, p, v, e, h => by unfold D.py at e; cases e
theorem dps_of (hs : Sub F H) : ∀ (ds : List D) (ps : List PyData) (vs : List V), D.pys ds = some ps → Reps C S F ds vs → DpAll C.K H vs ps
  | [], ps, vs, e, h => by
    unfold D.pys at e; unfold Reps at h; cases e; subst h; exact .nil
  | d :: ds, ps, vs, e, h => by
    unfold D.pys at e; unfold Reps at h
    obtain ⟨v, r, rfl, h1, h2⟩ := h
    cases z : D.py d with
    | none => rw [z] at e; cases e
    | some x =>
      cases z2 : D.pys ds with
      | none => rw [z, z2] at e; cases e
      | some xs =>
        rw [z, z2] at e
        cases e
        exact .cons (dp_of hs d x v z h1) (dps_of hs ds xs r z2 h2)
end
theorem View.dp {p : PyData} (hs : Sub F H) (e : D.py d = some p) (h : View C S F H d v) : Dp C.K H v p := by
  cases d with
  | lst ds =>
    obtain ⟨a, vs, rfl, q, r⟩ := h.lst
    unfold D.py at e
    cases z : D.pys ds with
    | none => rw [z] at e; cases e
    | some ps =>
      rw [z] at e
      cases e
      exact .lst (.of q) (dps_of hs ds ps vs z r)
  | dicK _ _ => unfold D.py at e; cases e
  | dicT _ _ => unfold D.py at e; cases e
  | _ => exact dp_of (S := S) hs _ p v e h
theorem flat_rep (f : d.flat = true) (h : Rep C S F d v) : flatV v = true := by
  cases d <;> first | (unfold Rep at h; subst h; rfl) | (cases f)
theorem flat_reps : ∀ {ds : List D} {vs : List V}, ds.all D.flat = true → Reps C S F ds vs → vs.all flatV = true
  | [], _, _, h => by unfold Reps at h; subst h; rfl
  | d :: ds, _, f, h => by
    unfold Reps at h
    obtain ⟨v, r, rfl, h1, h2⟩ := h
    rw [List.all_cons, Bool.and_eq_true] at f ⊢
    exact ⟨flat_rep f.1 h1, flat_reps f.2 h2⟩
theorem eqF_rep {e : D} {w : V} (hd : Rep C S F d v) (he : Rep C S F e w) (f : d.flat = true) (g : e.flat = true) : eqV v w = eqF d e := by
  cases d <;> first | (cases f; done) | (unfold Rep at hd; subst hd)
  all_goals (cases e <;> first | (cases g; done) | (unfold Rep at he; subst he; rfl))
theorem inF_rep {w : V} {e : D} (he : Rep C S F e w) (g : e.flat = true) : ∀ {ds : List D} {vs : List V}, ds.all D.flat = true → Reps C S F ds vs → inV w vs = inF e ds
  | [], _, _, h => by unfold Reps at h; subst h; rfl
  | d :: ds, _, f, h => by
    unfold Reps at h
    obtain ⟨v, r, rfl, h1, h2⟩ := h
    rw [List.all_cons, Bool.and_eq_true] at f
    show (eqV v w || inV w r) = (eqF d e || inF e ds)
    rw [eqF_rep h1 he f.1 g, inF_rep he g f.2 h2]
theorem View.flat (f : d.flat = true) (h : View C S F H d v) : Rep C S F d v := by
  cases d <;> first | exact h | (cases f)
def rCmp (C : CT) (op : CmpOp) : R2 := fun x y H Q => ∃ (S : SG) (F : Hp) (dx dy : D), Sub F H ∧ View C S F H dx x ∧ View C S F H dy y ∧ vCmp op dx dy fun b => Q (.bl b) H
theorem op_inD (hK : X.K = C.K) (hu : X.A.units + 64 < cLine) {dx dy : D} {x y : V} {Q : VK} {pins : List (Addr × Obj)} {s : Shared} {σ : L2.St} {v u : Value} (hs : Sub F H) (I : Inv X pins σ H s) (rx : RelV x v) (ry : RelV y u) (hx : View C S F H dx x) (hy : View C S F H dy y)
    (neg : Bool) (hv : vIn dx dy fun b => Q (.bl (if neg then !b else b)) H) : wpAny (model X.prog X.w) X.A (compareOp (if neg then .NotIn else .In) v u) (EP X pins σ Q) X.xe s := by
  unfold vIn at hv
  split at hv
  · cases hx.str; cases hy.str
    cases neg
    · exact op_in_str pins s σ H _ _ v u Q I rx ry ⟨_, _, rfl, rfl, hv⟩
    · exact op_notIn_str pins s σ H _ _ v u Q I rx ry ⟨_, _, rfl, rfl, hv⟩
  · obtain ⟨f1, f2, hv⟩ := hv
    obtain ⟨a, vs, rfl, q, r⟩ := hy.lst
    have e := inF_rep (hx.flat f1) f1 f2 r
    rw [← e] at hv
    cases neg
    · exact op_in_seq pins s σ H _ _ v u Q I rx ry ⟨a, vs, rfl, .inl (.of q), flat_rep f1 (hx.flat f1), flat_reps f2 r, hv⟩
    · exact op_notIn_seq pins s σ H _ _ v u Q I rx ry ⟨a, vs, rfl, .inl (.of q), flat_rep f1 (hx.flat f1), flat_reps f2 r, hv⟩
  · obtain ⟨f1, f2, hv⟩ := hv
    obtain ⟨a, vs, rfl, q, r⟩ := hy.tup hs
    have e := inF_rep (hx.flat f1) f1 f2 r
    rw [← e] at hv
    cases neg
    · exact op_in_seq pins s σ H _ _ v u Q I rx ry ⟨a, vs, rfl, .inr (by rw [hK]; exact q), flat_rep f1 (hx.flat f1), flat_reps f2 r, hv⟩
    · exact op_notIn_seq pins s σ H _ _ v u Q I rx ry ⟨a, vs, rfl, .inr (by rw [hK]; exact q), flat_rep f1 (hx.flat f1), flat_reps f2 r, hv⟩
  · obtain ⟨k, ek, hv⟩ := hv
    obtain ⟨a, vs, rfl, q, l, r⟩ := hy.dicK
    have ex := hx.key ek
    subst ex
    cases (show u = Value.ref a from ry)
    have g := DGet.k (k := k) q
    rw [valV_zip] at g
    rw [← r.dsome] at hv
    cases neg
    · exact d_in (by omega) I g rx fun s' I' => ⟨.bl _, H, I', rfl, hv⟩
    · exact d_notIn (by omega) I g rx fun s' I' => ⟨.bl _, H, I', rfl, hv⟩
  · obtain ⟨k, ek, hv⟩ := hv
    obtain ⟨a, vs, rfl, q, l, r⟩ := hy.dicT
    obtain ⟨b, rfl, zb⟩ := hx.keyT hs ek
    cases (show u = Value.ref a from ry)
    have g := DGet.t (k := k) q zb
    rw [valV_zip] at g
    rw [← r.dsome] at hv
    cases neg
    · exact d_in (by omega) I g rx fun s' I' => ⟨.bl _, H, I', rfl, hv⟩
    · exact d_notIn (by omega) I g rx fun s' I' => ⟨.bl _, H, I', rfl, hv⟩
  · exact hv.elim
theorem dec_beq_bool (a b : Bool) : decide ((V.bl a) = V.bl b) = (a == b) := by cases a <;> cases b <;> rfl
theorem op_eqv (hK : X.K = C.K) (hu : X.A.units + 64 < cLine) {dx dy : D} {x y : V} {Q : VK} {pins : List (Addr × Obj)} {s : Shared} {σ : L2.St} {v u : Value} (hs : Sub F H) (I : Inv X pins σ H s) (rx : RelV x v) (ry : RelV y u) (hx : View C S F H dx x) (hy : View C S F H dy y)
    (neg : Bool) (hv : vEq dx dy fun b => Q (.bl (if neg then !b else b)) H) : wpAny (model X.prog X.w) X.A (compareOp (if neg then .NotEq else .Eq) v u) (EP X pins σ Q) X.xe s := by
  have sc : ∀ {x y : V}, RelV x v → RelV y u → scal x y = true → Q (.bl (if neg then !decide (x = y) else decide (x = y))) H → wpAny (model X.prog X.w) X.A (compareOp (if neg then .NotEq else .Eq) v u) (EP X pins σ Q) X.xe s := fun rx ry h q => by
    cases neg
    · exact op_eq pins s σ H _ _ v u Q I rx ry ⟨h, q⟩
    · exact op_ne pins s σ H _ _ v u Q I rx ry ⟨h, q⟩
  unfold vEq at hv
  split at hv
  · cases hx.non; cases hy.non
    exact sc rx ry rfl hv
  · cases hx.bl; cases hy.bl
    exact sc rx ry rfl (by rw [dec_beq_bool]; exact hv)
  · cases hx.int; cases hy.int
    refine sc rx ry rfl ?_
    rename_i a b
    have e : decide (V.int a = V.int b) = decide (a = b) := by
      by_cases q : a = b
      · subst q; simp
      · rw [decide_eq_false q, decide_eq_false fun z => q (V.int.inj z)]
    rw [e]; exact hv
  · cases hx.str; cases hy.str
    refine sc rx ry rfl ?_
    rename_i a b
    have e : decide (V.str a = V.str b) = decide (a = b) := by
      by_cases q : a = b
      · subst q; simp
      · rw [decide_eq_false q, decide_eq_false fun z => q (V.str.inj z)]
    rw [e]; exact hv
  · obtain ⟨p, q, ep, eq, sp, sq, hv⟩ := hv
    cases neg
    · exact op_eqD hu pins s σ H _ _ v u Q I rx ry ⟨p, q, by rw [hK]; exact hx.dp hs ep, by rw [hK]; exact hy.dp hs eq, sp, sq, hv⟩
    · exact op_neD hu pins s σ H _ _ v u Q I rx ry ⟨p, q, by rw [hK]; exact hx.dp hs ep, by rw [hK]; exact hy.dp hs eq, sp, sq, hv⟩
theorem View.isNon (h : View C S F H d v) : decide (v = .non) = (match d with | .non => true | _ => false) := by
  cases d with
  | non => cases h.non; rfl
  | bl b => cases h.bl; rfl
  | int b => cases h.int; rfl
  | str b => cases h.str; rfl
  | tok => have h' : Rep C S F .tok v := h; unfold Rep at h'; subst h'; rfl
  | tup ds => have h' : Rep C S F (.tup ds) v := h; unfold Rep at h'; obtain ⟨a, vs, rfl, _⟩ := h'; rfl
  | lst ds => obtain ⟨a, vs, rfl, _⟩ := h.lst; rfl
  | dicK ks ds => obtain ⟨a, vs, rfl, _⟩ := h.dicK; rfl
  | dicT ks ds => obtain ⟨a, vs, rfl, _⟩ := h.dicT; rfl
  | obj c fs => have h' : Rep C S F (.obj c fs) v := h; unfold Rep at h'; obtain ⟨a, dx, vs, rfl, _⟩ := h'; rfl
  | exn c fs => have h' : Rep C S F (.exn c fs) v := h; unfold Rep at h'; obtain ⟨a, dx, fl, vs, _, rfl, _⟩ := h'; rfl
theorem op_cmpV (hK : X.K = C.K) (hu : X.A.units + 64 < cLine) (op : CmpOp) : OpR X (compareOp op) (rCmp C op) := by
  intro pins s σ' H x y v u Q I rx ry h
  obtain ⟨S, F, dx, dy, hs, hx, hy, hv⟩ := h
  cases op with
  | Eq => exact op_eqv hK hu hs I rx ry hx hy false hv
  | NotEq => exact op_eqv hK hu hs I rx ry hx hy true hv
  | In => exact op_inD hK hu hs I rx ry hx hy false hv
  | NotIn => exact op_inD hK hu hs I rx ry hx hy true hv
  | Lt =>
    simp only [vCmp] at hv
    split at hv
    · cases hx.int; cases hy.int
      exact op_lt pins s σ' H _ _ v u Q I rx ry ⟨_, _, rfl, rfl, hv⟩
    · exact hv.elim
  | LtE =>
    simp only [vCmp] at hv
    split at hv
    · cases hx.int; cases hy.int
      exact op_le pins s σ' H _ _ v u Q I rx ry ⟨_, _, rfl, rfl, hv⟩
    · exact hv.elim
  | Gt =>
    simp only [vCmp] at hv
    split at hv
    · cases hx.int; cases hy.int
      exact op_gt pins s σ' H _ _ v u Q I rx ry ⟨_, _, rfl, rfl, hv⟩
    · exact hv.elim
  | GtE =>
    simp only [vCmp] at hv
    split at hv
    · cases hx.int; cases hy.int
      exact op_ge pins s σ' H _ _ v u Q I rx ry ⟨_, _, rfl, rfl, hv⟩
    · exact hv.elim
  | Is =>
    simp only [vCmp] at hv
    split at hv
    · cases hy.non
      refine op_isN pins s σ' H _ _ v u Q I rx ry ⟨rfl, ?_⟩
      rw [hx.isNon]
      split at hv
      · exact hv
      · rename_i h
        cases dx <;> first | exact hv | exact absurd rfl h
    · exact hv.elim
  | IsNot =>
    simp only [vCmp] at hv
    split at hv
    · cases hy.non
      refine op_notN pins s σ' H _ _ v u Q I rx ry ⟨rfl, ?_⟩
      rw [hx.isNon]
      split at hv
      · exact hv
      · rename_i h
        cases dx <;> first | exact hv | exact absurd rfl h
    · exact hv.elim

/-! ### truth -/
theorem tru_of (hK : X.K = C.K) (hs : Sub F H) {Q : Bool → Hp → Prop} (h : View C S F H d v) (hv : truth d fun b => Q b H) : ∃ k, TruV X.K v H k ∧ Q k H := by
  unfold truth at hv
  split at hv
  · cases h.non; exact ⟨_, rfl, hv⟩
  · cases h.bl; exact ⟨_, rfl, hv⟩
  · cases h.int
    refine ⟨_, rfl, ?_⟩
    rename_i i
    have e : (i != 0) = !decide (i = 0) := by
      by_cases q : i = 0
      · subst q; rfl
      · rw [decide_eq_false q]; simp [q]
    rw [e]; exact hv
  · cases h.str
    obtain ⟨hl, hv⟩ := hv
    rename_i i
    refine ⟨_, ⟨Nat.le_trans hl lim_le, rfl⟩, ?_⟩
    have e : ((i.length : Int) != 0) = !decide (i.length = 0) := by
      by_cases q : i.length = 0
      · rw [q]; rfl
      · rw [decide_eq_false q]
        have : ((i.length : Int) != 0) = true := by simpa using q
        rw [this] <;> rfl
    rw [e]; exact hv
  · obtain ⟨a, vs, rfl, q, r⟩ := h.tup hs
    rename_i ds
    refine ⟨!vs.isEmpty, .inr (.inl ⟨vs, by rw [hK]; exact q, rfl⟩), ?_⟩
    have l := r.len
    have e : vs.isEmpty = ds.isEmpty := by cases vs <;> cases ds <;> first | rfl | simp at l
    rw [e]; exact hv
  · obtain ⟨a, vs, rfl, q, r⟩ := h.lst
    rename_i ds
    refine ⟨!vs.isEmpty, .inl ⟨vs, .of q, rfl⟩, ?_⟩
    have l := r.len
    have e : vs.isEmpty = ds.isEmpty := by cases vs <;> cases ds <;> first | rfl | simp at l
    rw [e]; exact hv
  · obtain ⟨a, vs, rfl, q, l, r⟩ := h.dicK
    rename_i ks ds
    refine ⟨!(ks.zip vs).isEmpty, .inr (.inr ⟨ks.zip vs, q, rfl⟩), ?_⟩
    have e : (ks.zip vs).isEmpty = ks.isEmpty := by cases vs <;> cases ks <;> first | rfl | simp at l
    rw [e]; exact hv
  · exact hv.elim

/-! ### items, parts -/
theorem atI_len {α β : Type} {xs : List α} {ys : List β} {i : Int} {x : α} (l : ys.length = xs.length) (h : L2.atI xs i = some x) : ∃ j, ixN xs.length i = some j ∧ xs[j]? = some x ∧ ixN ys.length i = some j := by
  unfold L2.atI at h
  cases q : ixN xs.length i with
  | none => rw [q] at h; cases h
  | some j =>
    rw [q] at h
    exact ⟨j, rfl, h, by rw [l]; exact q⟩
theorem atI_reps {ds : List D} {vs : List V} {i : Int} (r : Reps C S F ds vs) (h : L2.atI ds i = some d) : ∃ v, L2.atI vs i = some v ∧ Rep C S F d v := by
  obtain ⟨j, _, e2, e3⟩ := atI_len r.len h
  obtain ⟨v, e4, rv⟩ := r.at e2
  refine ⟨v, ?_, rv⟩
  unfold L2.atI
  rw [e3]
  exact e4
def rIxV (C : CT) : R2 := fun x y H Q => ∃ (S : SG) (F : Hp) (dx dy : D), Sub F H ∧ View C S F H dx x ∧ View C S F H dy y ∧ vIx dx dy fun d => ∀ v, Rep C S F d v → Q v H
theorem ix_D (hu : X.A.units + 1 < cLine) : IxR X (fun x y H Q => ∃ a v, x = .ref a ∧ DGet H a y (some v) ∧ Q v H) := by
  intro value slice pins s σ H x y o i Q I rx ry h hs
  obtain ⟨a, v, rfl, g, q⟩ := h
  cases rx
  have hT := dict_typeIs I g
  unfold subscriptTail
  refine wpAny_bind ?_
  rw [getitemInPython_of_ne hT.not_modules]
  refine wpAny_bind (wpAny_specialOf hT PySem.F.slot_dict_getitem.lookup ?_)
  have fin : wpAny (model X.prog X.w) X.A (subscripted slice false (.ref a) i) (fun r s₃ => wpAny (model X.prog X.w) X.A (letTemporaryGo value (.ref a) r >>= fun _ => pure r) (EP X pins σ Q) X.xe s₃) X.xe s := by
    rw [hs]
    exact wpAny_operating (d_getItem hu I g ry fun w' s3 I3 rw' => wpAny_bind (wpAny_letTemporaryGo (wpAny_pure ⟨v, H, I3, rw', q⟩)))
  first
    | exact wpAny_pure (wpAny_bind fin)
    | exact wpAny_bind (wpAny_pure (wpAny_bind fin))
    | exact wpAny_bind fin
theorem ix_V (hK : X.K = C.K) (hu : X.A.units + 64 < cLine) : IxR X (rIxV C) := by
  intro va sl pins s σ' H x y v u Q I rx ry h hsl
  obtain ⟨S, F, dx, dy, hs, hx, hy, hv⟩ := h
  unfold vIx at hv
  split at hv
  · obtain ⟨a, vs, rfl, q, r⟩ := hx.lst
    cases hy.int
    obtain ⟨d, e, k⟩ := hv
    obtain ⟨w, e2, rw1⟩ := atI_reps r e
    exact ix_list va sl pins s σ' H _ _ v u Q I rx ry ⟨a, vs, _, w, rfl, rfl, .of q, e2, k w rw1⟩ hsl
  · obtain ⟨a, vs, rfl, q, r⟩ := hx.tup hs
    cases hy.int
    obtain ⟨d, e, k⟩ := hv
    obtain ⟨w, e2, rw1⟩ := atI_reps r e
    exact ix_tup va sl pins s σ' H _ _ v u Q I rx ry ⟨a, vs, _, w, rfl, rfl, by simp only [hK]; exact q, e2, k w rw1⟩ hsl
  · cases hx.str; cases hy.int
    obtain ⟨hl, c, e, k⟩ := hv
    exact ix_str va sl pins s σ' H _ _ v u Q I rx ry ⟨_, _, c, rfl, rfl, Nat.le_trans hl lim_le, e, k _ rep_str⟩ hsl
  · obtain ⟨k, d, ek, ed, hk⟩ := hv
    obtain ⟨a, vs, rfl, q, l, r⟩ := hx.dicK
    have ey := hy.key ek
    subst ey
    obtain ⟨w, ew, rw1⟩ := r.dget.1 d ed
    have g := DGet.k (k := k) q
    rw [valV_zip, ew] at g
    exact ix_D (by omega) va sl pins s σ' H _ _ v u Q I rx ry ⟨a, w, rfl, g, hk w rw1⟩ hsl
  · obtain ⟨k, d, ek, ed, hk⟩ := hv
    obtain ⟨a, vs, rfl, q, l, r⟩ := hx.dicT
    obtain ⟨b, rfl, zb⟩ := hy.keyT hs ek
    obtain ⟨w, ew, rw1⟩ := r.dget.1 d ed
    have g := DGet.t (k := k) q zb
    rw [valV_zip, ew] at g
    exact ix_D (by omega) va sl pins s σ' H _ _ v u Q I rx ry ⟨a, w, rfl, g, hk w rw1⟩ hsl
  · exact hv.elim
def rSlV (C : CT) : V → Option Int → Option Int → Hp → VK → Prop := fun x lo hi H Q => ∃ (S : SG) (F0 H0 F : Hp) (σ : L2.St) (ρ : En) (dx : D) (k : R → Prop), OK C S F0 H0 F H σ ρ ∧ View C S F H dx x ∧ vSl dx lo hi k ∧ Gives C S F0 H0 F H σ ρ k Q
theorem cutD_eq {ds : List D} {vs : List V} {lo hi : Option Int} (r : Reps C S F ds vs) : Reps C S F (cutD ds lo hi) (cutV vs lo hi) := by
  unfold cutD cutV
  rw [r.len]
  exact (r.drop _).take _
theorem sl_V (hK : X.K = C.K) : SlR X (rSlV C) := by
  intro pins s σ' H x v vl vu lo hi sl Q I rx hs pl pu h
  obtain ⟨S, F0, H0, F, σ, ρ, dx, k, O, hx, hv, g⟩ := h
  unfold vSl at hv
  split at hv
  · obtain ⟨a, vs, rfl, q, r⟩ := hx.lst
    exact sl_list pins s σ' H _ v vl vu lo hi sl Q I rx hs pl pu ⟨a, vs, rfl, .of q, fun p hp => g.newL O hp (cutD_eq r) hv⟩
  · obtain ⟨a, vs, rfl, q, r⟩ := hx.tup O.sub
    rename_i ds
    refine sl_tupA pins s σ' H _ v vl vu lo hi sl Q I rx hs pl pu ⟨a, vs, rfl, by rw [hK]; exact q, fun ⟨e1, e2⟩ => ?_, fun _ p hp => g.newT O hp (cutD_eq r) hv⟩
    have e : cutD ds lo hi = ds := by
      unfold cutD
      rw [r.len] at e1 e2
      rw [e1, e2]
      simp
    rw [e] at hv
    exact g.val O hx.rep hv
  · exact hv.elim

/-! ### built-in functions -/
theorem Reps.strsD : ∀ {ds : List D} {vs : List V} {ns : List Str}, VL.strsD ds = some ns → Reps C S F ds vs → vs = ns.map V.str
  | [], _, ns, e, h => by
    unfold Reps at h
    unfold VL.strsD at e
    cases e
    exact h
  | d :: ds, _, ns, e, h => by
    unfold Reps at h
    obtain ⟨v, r, rfl, h1, h2⟩ := h
    cases d with
    | str i =>
      unfold VL.strsD at e
      cases q : VL.strsD ds with
      | none => rw [q] at e; cases e
      | some ms =>
        rw [q] at e
        have e2 : i :: ms = ns := by simpa using e
        subst e2
        unfold Rep at h1
        subst h1
        rw [Reps.strsD q h2] <;> rfl
    | _ => unfold VL.strsD at e; cases e
theorem reps_strs : ∀ ss : List Str, Reps C S F (ss.map .str) (ss.map V.str) := Reps.mapL fun _ => rep_str
theorem intsD_map : ∀ ns : List Int, intsD (ns.map .int) = some ns
  | [] => rfl
  | n :: ns => by
    rw [List.map_cons]
    unfold intsD
    rw [intsD_map ns] <;> rfl
/-- the ints of a tuple, read off the heap -/
def decV (F : Hp) (v : V) : List Int := match v with
  | .ref t => (match F t with
    | some (.tup us) => us.map fun u => (match u with
      | .int i => i
      | _ => 0)
    | _ => [])
  | _ => []
theorem decV_of {ns : List Int} (h : Rep C S F (tupD ns) v) : decV F v = ns ∧ ∃ t, v = .ref t ∧ F t = some (.tup (ns.map V.int)) := by
  unfold tupD Rep at h
  obtain ⟨t, us, rfl, z, r⟩ := h
  have e := r.intsD (intsD_map ns)
  subst e
  refine ⟨?_, t, rfl, z⟩
  unfold decV
  dsimp only
  rw [z]
  simp only [List.map_map]
  exact List.map_id ns
theorem dec_reps : ∀ {ps : List (List Int)} {vs : List V}, Reps C S F (ps.map tupD) vs → vs.map (decV F) = ps ∧ ∀ v ∈ vs, Rep C S F (tupD (decV F v)) v
  | [], vs, h => by unfold List.map Reps at h; subst h; exact ⟨rfl, fun _ z => nomatch z⟩
  | p :: ps, vs, h => by
    rw [List.map_cons] at h
    unfold Reps at h
    obtain ⟨v, r, rfl, h1, h2⟩ := h
    obtain ⟨e, _⟩ := decV_of h1
    obtain ⟨e2, h3⟩ := dec_reps h2
    refine ⟨by rw [List.map_cons, e, e2], fun w hw => ?_⟩
    rcases List.mem_cons.mp hw with rfl | hw
    · rw [e]; exact h1
    · exact h3 w hw
theorem reps_dec : ∀ {vs : List V}, (∀ v ∈ vs, Rep C S F (tupD (decV F v)) v) → Reps C S F ((vs.map (decV F)).map tupD) vs
  | [], _ => .nil
  | v :: vs, h => .cons (h v List.mem_cons_self) (reps_dec fun w hw => h w (List.mem_cons_of_mem _ hw))
/-- the keys of a tuple, read off the heap -/
def decK (F : Hp) (v : V) : List L2.Key := match v with
  | .ref t => (match F t with
    | some (.tup us) => us.map fun u => (match u with
      | .int i => .inl i
      | .str s => .inr s
      | _ => .inl 0)
    | _ => [])
  | _ => []
theorem reps_keys : ∀ {k : List L2.Key} {us : List V}, Reps C S F (k.map keyD) us → us = k.map kV
  | [], _, h => by unfold List.map Reps at h; exact h
  | .inl i :: k, us, h => by
    rw [List.map_cons] at h
    unfold Reps at h
    obtain ⟨v, r, rfl, h1, h2⟩ := h
    have h1 : Rep C S F (.int i) v := h1
    unfold Rep at h1
    subst h1
    rw [reps_keys h2]; rfl
  | .inr s :: k, us, h => by
    rw [List.map_cons] at h
    unfold Reps at h
    obtain ⟨v, r, rfl, h1, h2⟩ := h
    have h1 : Rep C S F (.str s) v := h1
    unfold Rep at h1
    subst h1
    rw [reps_keys h2]; rfl
theorem decK_of {k : List L2.Key} (h : Rep C S F (keysD k) v) : decK F v = k ∧ ∃ t, v = .ref t ∧ F t = some (.tup (k.map kV)) := by
  unfold keysD Rep at h
  obtain ⟨t, us, rfl, z, r⟩ := h
  have e := reps_keys r
  subst e
  refine ⟨?_, t, rfl, z⟩
  unfold decK
  dsimp only
  rw [z]
  simp only [List.map_map]
  conv => rhs; rw [← List.map_id k]
  exact List.map_congr_left fun x _ => by cases x <;> rfl
theorem decK_reps : ∀ {ps : List (List L2.Key)} {vs : List V}, Reps C S F (ps.map keysD) vs → vs.map (decK F) = ps ∧ ∀ v ∈ vs, Rep C S F (keysD (decK F v)) v
  | [], vs, h => by unfold List.map Reps at h; subst h; exact ⟨rfl, fun _ z => nomatch z⟩
  | p :: ps, vs, h => by
    rw [List.map_cons] at h
    unfold Reps at h
    obtain ⟨v, r, rfl, h1, h2⟩ := h
    obtain ⟨e, _⟩ := decK_of h1
    obtain ⟨e2, h3⟩ := decK_reps h2
    refine ⟨by rw [List.map_cons, e, e2], fun w hw => ?_⟩
    rcases List.mem_cons.mp hw with rfl | hw
    · rw [e]; exact h1
    · exact h3 w hw
theorem repsK_dec : ∀ {vs : List V}, (∀ v ∈ vs, Rep C S F (keysD (decK F v)) v) → Reps C S F ((vs.map (decK F)).map keysD) vs
  | [], _ => .nil
  | v :: vs, h => .cons (h v List.mem_cons_self) (repsK_dec fun w hw => h w (List.mem_cons_of_mem _ hw))
/-- sorted(..) of at most one thing -/
theorem cr_sort1 {X : Cx} : CallR X (.builtin "sorted") (fun vs H Q => ∃ (a : Addr) (xs : List V), vs = [V.ref a] ∧ H a = some (.lst xs) ∧ xs.length ≤ 1 ∧ ∀ p, H p = none → Q (.ref p) (upd H p (.lst xs))) := by
  intro pins s σ H vs us Q I r h
  obtain ⟨a, xs, rfl, hs, h1, q⟩ := h
  obtain ⟨its, n, rv, ho, hz⟩ := I.lst hs
  have hl : s.heap.IsList a its.toArray := ⟨_, ho, rfl, _, rfl⟩
  rw [Vals.ref1 r]
  have hlen := rv.length
  refine Srt.sorted_any hl (by rw [← hlen]; exact hz) (fun h2 => by omega) fun out hp => ?_
  have eo : out = its := by
    match its, out, hp, (show its.length ≤ 1 by omega) with
    | [], out, hp, _ => exact hp.eq_nil
    | [x], out, hp, _ => exact List.perm_singleton.mp hp
    | _ :: _ :: _, _, _, h => simp at h
  subst eo
  obtain ⟨ep, he'⟩ := PyProof.Rows.sortedAll_at s.heap out out.toArray
  exact ⟨.ref _, upd H (s.heap.objs.size + 1) (.lst xs), I.laid (t' := s.toks) (fun _ _ => PyProof.Rows.sortedAll_old) (Nat.le_succ _) ⟨hz, out, ep, rv, he'⟩, rfl, q _ (I.hok.fresh (Nat.le_succ _))⟩
def bV : B → Value
  | .len => .builtin "len"
  | .abs => .builtin "abs"
  | .max => .builtin "max"
  | .min => .builtin "min"
  | .int => .type "int"
  | .str => .type "str"
  | .sum => .builtin "sum"
  | .any => .builtin "any"
  | .all => .builtin "all"
  | .sorted => .builtin "sorted"
  | .list => .type "list"
  | .tuple => .type "tuple"
  | .bool => .type "bool"
  | .repr => .builtin "repr"
  | .range => .type "range"
  | .set => .type "set"
  | .dict => .type "dict"
/-- built-ins that are asked only where no exception is handled -/
def rBlt (C : CT) (b : B) : List V → Hp → VK → Prop := fun xs H Q => ∃ (S : SG) (F0 H0 F : Hp) (σ : L2.St) (ρ : En) (ds : List D) (k : R → Prop), OK C S F0 H0 F H σ ρ ∧ Views C S F H ds xs ∧ b ≠ .range ∧ vBlt b ds k ∧ Gives C S F0 H0 F H σ ρ k Q
theorem views1 {xs : List V} (h : Views C S F H [d] xs) : ∃ v, xs = [v] ∧ View C S F H d v := by
  obtain ⟨v, us, rfl, h1, h2⟩ := h
  cases (show us = [] from h2)
  exact ⟨v, rfl, h1⟩
theorem views2 {xs : List V} {e : D} (h : Views C S F H [d, e] xs) : ∃ v w, xs = [v, w] ∧ View C S F H d v ∧ View C S F H e w := by
  obtain ⟨v, us, rfl, h1, h2⟩ := h
  obtain ⟨w, rfl, h3⟩ := views1 h2
  exact ⟨v, w, rfl, h1, h3⟩
/-- what may be asked within an except suite -/
def B.hotOk : B → Bool
  | .len => true
  | .abs => true
  | .int => true
  | .tuple => true
  | .sorted => true
  | _ => false
theorem call_blt (hK : X.K = C.K) {b : B} (hc : X.calm = true ∨ b.hotOk = true) (hL : ¬ B.hotOk .list = true) : CallR X (bV b) (rBlt C b) := by
  intro pins s σ' H xs us Q I rx h
  obtain ⟨S, F0, H0, F, σ, ρ, ds, k, O, hx, hr, hv, g⟩ := h
  unfold vBlt at hv
  split at hv
  · obtain ⟨v, rfl, h1⟩ := views1 hx
    obtain ⟨a, vs, rfl, q, r⟩ := h1.lst
    exact call_len_seq pins s σ' H _ us Q I rx ⟨a, vs, rfl, .inl (.of q), by rw [r.len]; exact g.val O rep_int hv⟩
  · obtain ⟨v, rfl, h1⟩ := views1 hx
    obtain ⟨a, vs, rfl, q, r⟩ := h1.tup O.sub
    exact call_len_seq pins s σ' H _ us Q I rx ⟨a, vs, rfl, .inr (by rw [hK]; exact q), by rw [r.len]; exact g.val O rep_int hv⟩
  · obtain ⟨v, rfl, h1⟩ := views1 hx
    cases h1.str
    exact call_len_str pins s σ' H _ us Q I rx ⟨_, rfl, Nat.le_trans hv.1 lim_le, g.val O rep_int hv.2⟩
  · obtain ⟨v, rfl, h1⟩ := views1 hx
    obtain ⟨a, vs, rfl, q, l, r⟩ := h1.dicK
    exact call_lenD pins s σ' H _ us Q I rx ⟨a, _, rfl, q, by rw [List.length_zip, l, Nat.min_self]; exact g.val O rep_int hv⟩
  · obtain ⟨v, rfl, h1⟩ := views1 hx
    obtain ⟨a, vs, rfl, q, l, r⟩ := h1.dicT
    exact call_len_dT pins s σ' H _ us Q I rx ⟨a, _, rfl, q, by rw [List.length_zip, l, Nat.min_self]; exact g.val O rep_int hv⟩
  · obtain ⟨v, rfl, h1⟩ := views1 hx
    obtain ⟨a, vs, rfl, q, l, r⟩ := h1.dicK
    rename_i ks ds
    refine call_list_dK (hc.resolve_right hL) pins s σ' H _ us Q I rx ⟨a, _, rfl, q, fun p hn => ?_⟩
    have e : (ks.zip vs).map (fun kv => kV kv.1) = ks.map kV := by
      have := congrArg (List.map kV) (List.map_fst_zip (l₁ := ks) (l₂ := vs) (by omega))
      rw [List.map_map] at this
      exact this
    rw [e]
    exact g.newL O hn (Reps.mapL (fun k => rep_key k) ks) hv
  · obtain ⟨v, rfl, h1⟩ := views1 hx
    obtain ⟨a, vs, rfl, q, l, r⟩ := h1.dicT
    rename_i ks ds
    refine call_list_dT (hc.resolve_right hL) pins s σ' H _ us Q I rx ⟨a, _, rfl, .inl q, fun p bs hn hk => ?_⟩
    obtain ⟨F1, O1, s1, r1⟩ := O.frzKeys hk
    have e : (ks.zip vs).map (fun p => D.tup (p.1.map keyD)) = ks.map fun k => .tup (k.map keyD) := by
      have := congrArg (List.map fun k => D.tup (k.map keyD)) (List.map_fst_zip (l₁ := ks) (l₂ := vs) (by omega))
      rw [List.map_map] at this
      exact this
    rw [e] at r1
    have nn := O1.new hn
    exact g (.tmp (.lst (ks.map fun k => .tup (k.map keyD)))) _ _ _ (O1.newO hn _) ⟨s1, (Tr.newO (S := S) (ρ := ρ) (σ := σ) (F := F1) hn _).dom, (Tr.newO (S := S) (ρ := ρ) (σ := σ) (F := F1) hn _).keep, fun _ d e => ⟨d, e⟩⟩ ⟨p, rfl, nn.1, nn.2.1, O1.noslot hn, _, upd_same, _, rfl, r1⟩ (fun b e => by cases e; exact nn.2.2) hv
  · obtain ⟨v, rfl, h1⟩ := views1 hx
    obtain ⟨a, vs, rfl, q, r⟩ := h1.lst
    obtain ⟨ns, e, hne, hv⟩ := hv
    have e2 := r.intsD e
    subst e2
    exact cr_max (hc.resolve_right (by simp [B.hotOk])) pins s σ' H _ us Q I rx ⟨a, ns, rfl, .of q, List.length_pos_iff.mpr hne, fun m h1 h2 => g.val O rep_int (hv m h1 h2)⟩
  · obtain ⟨v, rfl, h1⟩ := views1 hx
    obtain ⟨a, vs, rfl, q, r⟩ := h1.lst
    obtain ⟨ns, e, hne, hv⟩ := hv
    have e2 := r.intsD e
    subst e2
    exact cr_min (hc.resolve_right (by simp [B.hotOk])) pins s σ' H _ us Q I rx ⟨a, ns, rfl, .of q, List.length_pos_iff.mpr hne, fun m h1 h2 => g.val O rep_int (hv m h1 h2)⟩
  · obtain ⟨v, rfl, h1⟩ := views1 hx
    cases h1.int
    exact call_str_int pins s σ' H _ us Q I rx ⟨_, rfl, hv.1, g.val O rep_str hv.2⟩
  · obtain ⟨v, rfl, h1⟩ := views1 hx
    cases h1.str
    exact SkE.call_str_str pins s σ' H _ us Q I rx ⟨_, rfl, g.val O rep_str hv⟩
  · obtain ⟨v, rfl, h1⟩ := views1 hx
    cases h1.int
    exact call_abs pins s σ' H _ us Q I rx ⟨_, rfl, g.val O rep_int hv⟩
  · obtain ⟨v, w, rfl, h1, h2⟩ := views2 hx
    cases h1.int; cases h2.int
    exact call_max2 (hc.resolve_right (by simp [B.hotOk])) pins s σ' H _ us Q I rx ⟨_, _, rfl, g.val O rep_int hv⟩
  · obtain ⟨v, w, rfl, h1, h2⟩ := views2 hx
    cases h1.int; cases h2.int
    exact call_min2 (hc.resolve_right (by simp [B.hotOk])) pins s σ' H _ us Q I rx ⟨_, _, rfl, g.val O rep_int hv⟩
  · obtain ⟨v, rfl, h1⟩ := views1 hx
    cases h1.int
    exact call_int1 pins s σ' H _ us Q I rx (.inl ⟨_, rfl, g.val O rep_int hv⟩)
  · obtain ⟨v, rfl, h1⟩ := views1 hx
    cases h1.bl
    exact call_int1 pins s σ' H _ us Q I rx (.inr ⟨_, rfl, g.val O rep_int hv⟩)
  · obtain ⟨v, rfl, h1⟩ := views1 hx
    obtain ⟨a, vs, rfl, q, r⟩ := h1.lst
    exact call_list_of pins s σ' H _ us Q I rx ⟨a, vs, rfl, .inl (.of q), fun l hl => g.newL O hl r hv⟩
  · obtain ⟨v, rfl, h1⟩ := views1 hx
    obtain ⟨a, vs, rfl, q, r⟩ := h1.tup O.sub
    exact call_list_of pins s σ' H _ us Q I rx ⟨a, vs, rfl, .inr (by rw [hK]; exact q), fun l hl => g.newL O hl r hv⟩
  · obtain ⟨v, rfl, h1⟩ := views1 hx
    obtain ⟨a, vs, rfl, q, r⟩ := h1.lst
    exact call_tuple_of pins s σ' H _ us Q I rx ⟨a, vs, rfl, .inl ⟨.of q, fun l hl => g.newT O hl r hv⟩⟩
  · obtain ⟨v, rfl, h1⟩ := views1 hx
    obtain ⟨a, vs, rfl, q, r⟩ := h1.tup O.sub
    exact call_tuple_of pins s σ' H _ us Q I rx ⟨a, vs, rfl, .inr ⟨by rw [hK]; exact q, g.val O h1.rep hv⟩⟩
  · obtain ⟨v, rfl, h1⟩ := views1 hx
    obtain ⟨a, vs, rfl, q, r⟩ := h1.lst
    obtain ⟨ns, e, hv⟩ := hv
    have e2 := r.intsD e
    subst e2
    exact cr_sum (hc.resolve_right (by simp [B.hotOk])) pins s σ' H _ us Q I rx ⟨a, ns, rfl, .of q, g.val O rep_int hv⟩
  · obtain ⟨v, rfl, h1⟩ := views1 hx
    obtain ⟨a, vs, rfl, q, r⟩ := h1.lst
    obtain ⟨ns, e, hv⟩ := hv
    have e2 := r.boolsD e
    subst e2
    exact cr_any (hc.resolve_right (by simp [B.hotOk])) pins s σ' H _ us Q I rx ⟨a, ns, rfl, .of q, g.val O rep_bl hv⟩
  · obtain ⟨v, rfl, h1⟩ := views1 hx
    obtain ⟨a, vs, rfl, q, r⟩ := h1.lst
    obtain ⟨ns, e, hv⟩ := hv
    have e2 := r.boolsD e
    subst e2
    exact cr_all (hc.resolve_right (by simp [B.hotOk])) pins s σ' H _ us Q I rx ⟨a, ns, rfl, .of q, g.val O rep_bl hv⟩
  · obtain ⟨v, rfl, h1⟩ := views1 hx
    obtain ⟨a, vs, rfl, q, r⟩ := h1.lst
    unfold vSort at hv
    rcases hv with ⟨ns, e, _, hv⟩ | ⟨ps, d, B, e, h64, hd, hB, hv⟩ | ⟨ns, e, h64, hv⟩ | ⟨sh, ps, e, hB, hv⟩
    · have e2 := r.intsD e
      subst e2
      exact cr_sortedI pins s σ' H _ us Q I rx ⟨a, ns, rfl, .of q, fun ms p hp hw hn => g.newL O hn (.ofInts ms) (hv ms hp hw)⟩
    · subst e
      obtain ⟨e1, e2⟩ := dec_reps r
      have hlen : vs.length = ps.length := by rw [r.len, List.length_map]
      rcases hd with hd | hd
      · refine cr_sortT (d := d) (B := B) hd pins s σ' H _ us Q I rx ⟨a, vs, rfl, .of q, by rw [hlen]; exact h64, fun x hx => ?_, fun ys p hp hw hn => g.newL O hn (ds := (ys.map (decV F)).map tupD) (vs := ys) ?_ (hv _ ?_ ?_)⟩
        · obtain ⟨_, t, rfl, z⟩ := decV_of (e2 x hx)
          obtain ⟨b1, b2⟩ := hB (decV F (.ref t)) (by rw [← e1]; exact List.mem_map.mpr ⟨_, hx, rfl⟩)
          exact ⟨_, ⟨t, rfl, .inl (.inl (O.sub _ _ z))⟩, b1, b2⟩
        · exact reps_dec fun v hv => e2 v (hp.mem_iff.mp hv)
        · rw [← e1]; exact hp.map _
        · rw [List.pairwise_map]
          refine List.Pairwise.imp_of_mem (fun {x y} hx hy h => ?_) hw
          obtain ⟨_, t, ex, z⟩ := decV_of (e2 x (hp.mem_iff.mp hx))
          obtain ⟨_, t', ey, z'⟩ := decV_of (e2 y (hp.mem_iff.mp hy))
          exact h _ _ ⟨t, ex, .inl (.inl (O.sub _ _ z))⟩ ⟨t', ey, .inl (.inl (O.sub _ _ z'))⟩
      · refine cr_sort1 pins s σ' H _ us Q I rx ⟨a, vs, rfl, q, by omega, fun p hn => g.newL O hn r (hv ps (List.Perm.refl _) ?_)⟩
        match ps, hd with
        | [], _ => exact .nil
        | [x], _ => exact List.pairwise_singleton _ _
        | _ :: _ :: _, h => simp at h
    · have e2 := r.strsD e
      subst e2
      exact cr_sortedS pins s σ' H _ us Q I rx ⟨a, ns, rfl, .of q, by rw [← List.length_map (f := V.str), r.len]; exact h64, fun ys p hp hw hn => g.newL O hn (reps_strs ys) (hv ys hp hw)⟩
    · subst e
      obtain ⟨e1, e2⟩ := decK_reps r
      refine cr_sortK (sh := sh) pins s σ' H _ us Q I rx ⟨a, vs, rfl, .of q, fun x hx => ?_, fun ys p hp hw hn => g.newL O hn (ds := (ys.map (decK F)).map keysD) (vs := ys) ?_ (hv _ ?_ ?_)⟩
      · obtain ⟨_, t, rfl, z⟩ := decK_of (e2 x hx)
        obtain ⟨b1, b2⟩ := hB (decK F (.ref t)) (by rw [← e1]; exact List.mem_map.mpr ⟨_, hx, rfl⟩)
        exact ⟨_, ⟨t, rfl, .inl (.inl (O.sub _ _ z))⟩, b1, b2⟩
      · exact repsK_dec fun v hv => e2 v (hp.mem_iff.mp hv)
      · rw [← e1]; exact hp.map _
      · rw [List.pairwise_map]
        refine List.Pairwise.imp_of_mem (fun {x y} hx hy h => ?_) hw
        obtain ⟨_, t, ex, z⟩ := decK_of (e2 x (hp.mem_iff.mp hx))
        obtain ⟨_, t', ey, z'⟩ := decK_of (e2 y (hp.mem_iff.mp hy))
        exact h _ _ ⟨t, ex, .inl (.inl (O.sub _ _ z))⟩ ⟨t', ey, .inl (.inl (O.sub _ _ z'))⟩
  · exact absurd rfl hr
  · exact hv.elim
theorem isin_V (hK : X.K = C.K) {n : String} {Q : VK} {x : V} (hs : Sub F H) (h : View C S F H d x) (hn : n ∈ ["NoneType", "bool", "int", "str", "list", "tuple", "dict"]) (hv : vIsin d (.bi n) fun b => Q (.bl b) H) : rIsi X.K [x, .ty n] H Q := by
  simp only [vIsin] at hv
  have kit : ∀ a : String, a ∈ ["NoneType", "bool", "int", "str", "list", "tuple", "dict"] → kitB a n = some (a == n || (a == "bool" && n == "int")) := by
    intro a ha
    simp only [List.mem_cons, List.not_mem_nil, or_false] at ha hn
    rcases ha with rfl | rfl | rfl | rfl | rfl | rfl | rfl <;> rcases hn with rfl | rfl | rfl | rfl | rfl | rfl | rfl <;> decide +kernel
  split at hv
  · cases h.non
    refine ⟨_, _, _, _, _, rfl, .ty n, .base .non, kit_ty (kit _ (by simp)), ?_⟩
    have e : (("NoneType" : String) == n || ("NoneType" == "bool" && n == "int")) = (n == "NoneType") := by
      simp only [List.mem_cons, List.not_mem_nil, or_false] at hn
      rcases hn with rfl | rfl | rfl | rfl | rfl | rfl | rfl <;> decide +kernel
    rw [e]; exact hv
  · cases h.bl
    refine ⟨_, _, _, _, _, rfl, .ty n, .base (.bl _), kit_ty (kit _ (by simp)), ?_⟩
    have e : (("bool" : String) == n || ("bool" == "bool" && n == "int")) = (n == "bool" || n == "int") := by
      simp only [List.mem_cons, List.not_mem_nil, or_false] at hn
      rcases hn with rfl | rfl | rfl | rfl | rfl | rfl | rfl <;> decide +kernel
    rw [e]; exact hv
  · cases h.int
    refine ⟨_, _, _, _, _, rfl, .ty n, .base (.int _), kit_ty (kit _ (by simp)), ?_⟩
    have e : (("int" : String) == n || ("int" == "bool" && n == "int")) = (n == "int") := by
      simp only [List.mem_cons, List.not_mem_nil, or_false] at hn
      rcases hn with rfl | rfl | rfl | rfl | rfl | rfl | rfl <;> decide +kernel
    rw [e]; exact hv
  · cases h.str
    refine ⟨_, _, _, _, _, rfl, .ty n, .base (.str _), kit_ty (kit _ (by simp)), ?_⟩
    have e : (("str" : String) == n || ("str" == "bool" && n == "int")) = (n == "str") := by
      simp only [List.mem_cons, List.not_mem_nil, or_false] at hn
      rcases hn with rfl | rfl | rfl | rfl | rfl | rfl | rfl <;> decide +kernel
    rw [e]; exact hv
  · obtain ⟨a, vs, rfl, q, r⟩ := h.lst
    refine ⟨_, _, _, _, _, rfl, .ty n, .base (.lst q), kit_ty (kit _ (by simp)), ?_⟩
    have e : (("list" : String) == n || ("list" == "bool" && n == "int")) = (n == "list") := by
      simp only [List.mem_cons, List.not_mem_nil, or_false] at hn
      rcases hn with rfl | rfl | rfl | rfl | rfl | rfl | rfl <;> decide +kernel
    rw [e]; exact hv
  · obtain ⟨a, vs, rfl, q, r⟩ := h.tup hs
    have e : (("tuple" : String) == n || ("tuple" == "bool" && n == "int")) = (n == "tuple") := by
      simp only [List.mem_cons, List.not_mem_nil, or_false] at hn
      rcases hn with rfl | rfl | rfl | rfl | rfl | rfl | rfl <;> decide +kernel
    rcases q with (q | ⟨o, q⟩) | ⟨o, its, m, hk, hc, _⟩
    · exact ⟨_, _, _, _, _, rfl, .ty n, .base (.tup q), kit_ty (kit _ (by simp)), by rw [e]; exact hv⟩
    · exact ⟨_, _, _, _, _, rfl, .ty n, .fTuple q, kit_ty (kit _ (by simp)), by rw [e]; exact hv⟩
    · exact ⟨_, _, _, _, _, rfl, .ty n, .kTuple (by rw [hK]; exact hk) hc, kit_ty (kit _ (by simp)), by rw [e]; exact hv⟩
  · obtain ⟨a, vs, rfl, q, l, r⟩ := h.dicK
    refine ⟨_, _, _, _, _, rfl, .ty n, .base (.dK q), kit_ty (kit _ (by simp)), ?_⟩
    have e : (("dict" : String) == n || ("dict" == "bool" && n == "int")) = (n == "dict") := by
      simp only [List.mem_cons, List.not_mem_nil, or_false] at hn
      rcases hn with rfl | rfl | rfl | rfl | rfl | rfl | rfl <;> decide +kernel
    rw [e]; exact hv
  · obtain ⟨a, vs, rfl, q, l, r⟩ := h.dicT
    refine ⟨_, _, _, _, _, rfl, .ty n, .base (.dT q), kit_ty (kit _ (by simp)), ?_⟩
    have e : (("dict" : String) == n || ("dict" == "bool" && n == "int")) = (n == "dict") := by
      simp only [List.mem_cons, List.not_mem_nil, or_false] at hn
      rcases hn with rfl | rfl | rfl | rfl | rfl | rfl | rfl <;> decide +kernel
    rw [e]; exact hv
  · exact hv.elim

/-! ### methods of built-in types -/
/-- the own list at slot i is changed -/
theorem OK.setOwnT {i : Nat} {d0 d1 : D} {ho : HO} (I : OK C S F0 H0 F H σ ρ) (h : ρ[i]? = some (.own d0)) (e : σ[i]? = some (some (.ref a))) (r : Top C S F d1 ho) :
    OK C S F0 H0 F (upd H a ho) σ (ρ.set i (.own d1)) ∧ Tr S ρ (ρ.set i (.own d1)) σ F H F (upd H a ho) := by
  obtain ⟨a', e1, h0, f, hp, k⟩ := I.own i d0 h
  have ea : a' = a := by rw [e] at e1; cases e1; rfl
  subst ea
  have hn : ∀ b, NoSlot σ ρ b → b ≠ a' := fun b n z => by subst z; exact n i d0 h e
  refine ⟨⟨fun b u q => ?_, fun b u hb q => ?_, I.p0, I.f0, I.fn, by rw [List.length_set]; exact I.len, fun j d q => ?_, fun j d q => ?_, fun j k' dd1 e2 b q1 q2 s1 s2 => ?_, ?_⟩, ⟨Sub.refl F, fun b q => ?_, fun b u q hb n => ?_, fun j d q => ?_⟩⟩
  · have hb : b ≠ a' := fun z => by subst z; rw [f] at q; cases q
    rw [upd_ne hb]; exact I.sub b u q
  · have hx : b ≠ a' := fun z => by subst z; rw [h0] at q; cases q
    rw [upd_ne hx]; exact I.fr b u hb q
  · rcases get_set q with ⟨_, z⟩ | ⟨_, z⟩
    · cases z
    · exact I.val j d z
  · rcases get_set q with ⟨hj, z⟩ | ⟨hj, z⟩
    · cases z
      subst hj
      exact ⟨a', e1, h0, f, hp, _, upd_same, r⟩
    · obtain ⟨b, e2, h02, f2, hp2, k2⟩ := I.own j d z
      have hb : b ≠ a' := fun w => by subst w; exact hj (I.dis j i d d0 b z h e2 e1)
      obtain ⟨o', w, r2⟩ := k2
      exact ⟨b, e2, h02, f2, hp2, o', by rw [upd_ne hb]; exact w, r2⟩
  · have o : ∀ {j : Nat} {d : D}, (ρ.set i (.own d1))[j]? = some (.own d) → ∃ d', ρ[j]? = some (.own d') := fun {j d} q => by
      rcases get_set q with ⟨hj, z⟩ | ⟨hj, z⟩
      · subst hj; exact ⟨d0, h⟩
      · exact ⟨d, z⟩
    obtain ⟨_, o1⟩ := o q1
    obtain ⟨_, o2⟩ := o q2
    exact I.dis j k' _ _ b o1 o2 s1 s2
  · obtain ⟨x, y, l, t, s, z, b⟩ := I.sto.st
    exact ⟨I.sto.cells, I.sto.free, I.sto.len, x, y, l, t, s, by rw [upd_ne (Ne.symm hp)]; exact z, b⟩
  · by_cases hb : b = a'
    · subst hb; rw [upd_same]; exact fun z => by cases z
    · rw [upd_ne hb]; exact q
  · rw [upd_ne (hn b n)]; exact q
  · rcases get_set q with ⟨hj, z⟩ | ⟨hj, z⟩
    · subst hj; exact ⟨d0, h⟩
    · exact ⟨d, z⟩
theorem OK.setOwn {i : Nat} {d0 : D} {ds : List D} {vs : List V} (I : OK C S F0 H0 F H σ ρ) (h : ρ[i]? = some (.own d0)) (e : σ[i]? = some (some (.ref a))) (r : Reps C S F ds vs) :
    OK C S F0 H0 F (upd H a (.lst vs)) σ (ρ.set i (.own (.lst ds))) ∧ Tr S ρ (ρ.set i (.own (.lst ds))) σ F H F (upd H a (.lst vs)) := I.setOwnT h e ⟨vs, rfl, r⟩
def rMet (C : CT) (m : M) : V → List V → Hp → VK → Prop := fun x xs H Q => ∃ (S : SG) (F0 H0 F : Hp) (σ : L2.St) (ρ : En) (rx : R) (rs : List R) (K : EK), OK C S F0 H0 F H σ ρ ∧ RRep C S H0 F H σ ρ rx x ∧ RReps C S H0 F H σ ρ rs xs ∧ rx.lv ρ True ∧ (∀ r ∈ rs, r.lv ρ True) ∧ vMet m rx rs ρ K ∧
  ∀ r ρ' v F' H', OK C S F0 H0 F' H' σ ρ' → Tr S ρ ρ' σ F H F' H' → RRep C S H0 F' H' σ ρ' r v → RFresh F' ρ' r v → K r ρ' → Q v H'
/-- a slot's own list -/
theorem own_at {i : Nat} {ds : List D} {x : V} (I : OK C S F0 H0 F H σ ρ) (h : ρ[i]? = some (.own (.lst ds))) (e : RRep C S H0 F H σ ρ (.var i d) x) : ∃ a vs, x = .ref a ∧ σ[i]? = some (some (.ref a)) ∧ H a = some (.lst vs) ∧ Reps C S F ds vs := by
  obtain ⟨a, e1, _, _, _, _, z, vs, rfl, r⟩ := I.own i _ h
  have e' : σ[i]? = some (some x) := e
  rw [e'] at e1
  cases e1
  exact ⟨a, vs, rfl, e', z, r⟩
theorem rreps1 {r : R} {xs : List V} (h : RReps C S H0 F H σ ρ [r] xs) : ∃ v, xs = [v] ∧ RRep C S H0 F H σ ρ r v := by
  obtain ⟨v, us, rfl, h1, h2⟩ := h
  cases (show us = [] from h2)
  exact ⟨v, rfl, h1⟩
theorem rreps2 {r q : R} {xs : List V} (h : RReps C S H0 F H σ ρ [r, q] xs) : ∃ v w, xs = [v, w] ∧ RRep C S H0 F H σ ρ r v ∧ RRep C S H0 F H σ ρ q w := by
  obtain ⟨v, us, rfl, h1, h2⟩ := h
  obtain ⟨w, rfl, h3⟩ := rreps1 h2
  exact ⟨v, w, rfl, h1, h3⟩
theorem rrep_non {H : Hp} : RRep C S H0 F H σ ρ (.val .non) .non := rep_non (C := C) (S := S) (F := F)
theorem lim_lt {n : Nat} (h : n < lim) : n < sizeLine := Nat.lt_of_lt_of_le h lim_le
theorem mt_appendV : MtR X "list.append" (rMet C .append) := by
  intro pins s σ' H x xs v us Q I rx rxs h
  obtain ⟨S, F0, H0, F, σ, ρ, r0, rs, K, O, hr0, hrs, l0, ls, hv, g⟩ := h
  unfold vMet at hv
  split at hv <;> try (rename_i hm; cases hm; done)
  all_goals try (exact hv.elim)
  rename_i i ds r _
  obtain ⟨⟨ho, hz⟩, hk⟩ := hv
  obtain ⟨y, rfl, hy⟩ := rreps1 hrs
  obtain ⟨F1, O1, t1, r1, _⟩ := freeze (P := True) O hy (ls r (by simp))
  obtain ⟨a, vs, rfl, e1, z, rv⟩ := own_at O1 ho (RRep.tr hr0 t1)
  obtain ⟨O2, t2⟩ := O1.setOwn ho e1 (rv.app (.cons r1 .nil))
  exact mt_append pins s σ' H _ _ v us Q I rx rxs ⟨a, vs, y, rfl, rfl, z, by rw [rv.len]; exact lim_lt hz, g (.val .non) _ _ _ _ O2 (t1.trans t2) rrep_non trivial hk⟩
theorem mt_popV0 : MtR X "list.pop" (fun x xs H Q => xs = [] ∧ rMet C .pop x xs H Q) := by
  intro pins s σ' H x xs v us Q I rx rxs h
  obtain ⟨hx0, S, F0, H0, F, σ, ρ, r0, rs, K, O, hr0, hrs, l0, ls, hv, g⟩ := h
  subst hx0
  cases rs with
  | cons r rs => obtain ⟨_, _, e, _⟩ := hrs; cases e
  | nil =>
    unfold vMet at hv
    split at hv <;> try (rename_i hm; cases hm; done)
    all_goals try (exact hv.elim)
    all_goals try (rename_i hm _; cases hm; done)
    · rename_i i ds _ _
      obtain ⟨ho, d, hd, hk⟩ := hv
      obtain ⟨a, vs, rfl, e1, z, rv⟩ := own_at O ho hr0
      obtain ⟨O2, t2⟩ := O.setOwn ho e1 rv.dropLast
      obtain ⟨y, hy, ry⟩ := rv.at hd
      exact mt_pop pins s σ' H _ _ v us Q I rx rxs ⟨a, vs, y, rfl, rfl, z, by rw [rv.len]; exact hy, g (.val d) _ _ _ _ O2 t2 ry trivial hk⟩
theorem seqIx {n : Nat} {k : Int} (h : 0 ≤ k) (h2 : k.toNat < n) : seqIndex? k n = some k.toNat := (ixN_seq (j := k.toNat) (by unfold ixN; rw [if_pos h, if_pos (by omega)])).1
theorem mt_popV1 : MtR X "list.pop" (fun x xs H Q => (∃ y, xs = [y]) ∧ rMet C .pop x xs H Q) := by
  intro pins s σ' H x xs v us Q I rx rxs h
  obtain ⟨⟨y0, hx0⟩, S, F0, H0, F, σ, ρ, r0, rs, K, O, hr0, hrs, l0, ls, hv, g⟩ := h
  subst hx0
  cases rs with
  | nil => cases (show [y0] = [] from hrs)
  | cons r rs =>
    unfold vMet at hv
    split at hv <;> try (rename_i hm; cases hm; done)
    all_goals try (exact hv.elim)
    all_goals try (rename_i hm _; cases hm; done)
    · rename_i i ds r' _ hrr
      cases hrr
      obtain ⟨y, e, hy⟩ := rreps1 hrs
      cases e
      obtain ⟨vy, _⟩ := view_of (P := True) O hy (ls r (by simp))
      split at hv
      · rename_i k hk'
        rw [hk'] at vy
        cases vy.int
        obtain ⟨⟨ho, h0, h1⟩, d, hd, hk⟩ := hv
        obtain ⟨a, vs, rfl, e1, z, rv⟩ := own_at O ho hr0
        obtain ⟨O2, t2⟩ := O.setOwn ho e1 (rv.erase k.toNat)
        obtain ⟨y, hy, ry⟩ := rv.at hd
        exact mt_popAt pins s σ' H _ _ v us Q I rx rxs ⟨a, vs, k, k.toNat, y, rfl, rfl, z, by omega, by omega, seqIx h0 (List.getElem?_eq_some_iff.mp hy).1, hy, g (.val d) _ _ _ _ O2 t2 ry trivial hk⟩
      · exact hv.elim
theorem mt_extendV : MtR X "list.extend" (rMet C .extend) := by
  intro pins s σ' H x xs v us Q I rx rxs h
  obtain ⟨S, F0, H0, F, σ, ρ, r0, rs, K, O, hr0, hrs, l0, ls, hv, g⟩ := h
  unfold vMet at hv
  split at hv <;> try (rename_i hm; cases hm; done)
  all_goals try (exact hv.elim)
  all_goals try (rename_i hm _; cases hm; done)
  rename_i i ds r _
  split at hv
  · rename_i es hes
    obtain ⟨⟨ho, hz⟩, hk⟩ := hv
    obtain ⟨y, rfl, hy⟩ := rreps1 hrs
    obtain ⟨F1, O1, t1, r1, _⟩ := freeze (P := True) O hy (ls r (by simp))
    rw [hes] at r1
    unfold Rep at r1
    obtain ⟨b, us', rfl, qb, rb⟩ := r1
    obtain ⟨a, vs, rfl, e1, z, rv⟩ := own_at O1 ho (RRep.tr hr0 t1)
    obtain ⟨O2, t2⟩ := O1.setOwn ho e1 (rv.app rb)
    exact mt_extend pins s σ' H _ _ v us Q I rx rxs ⟨a, b, vs, us', rfl, rfl, z, O1.sub _ _ qb, by rw [rv.len, rb.len]; exact Nat.le_trans hz lim_le, g (.val .non) _ _ _ _ O2 (t1.trans t2) rrep_non trivial hk⟩
  · exact hv.elim
theorem mt_insertV : MtR X "list.insert" (rMet C .insert) := by
  intro pins s σ' H x xs v us Q I rx rxs h
  obtain ⟨S, F0, H0, F, σ, ρ, r0, rs, K, O, hr0, hrs, l0, ls, hv, g⟩ := h
  unfold vMet at hv
  split at hv <;> try (rename_i hm; cases hm; done)
  all_goals try (exact hv.elim)
  all_goals try (rename_i hm _; cases hm; done)
  rename_i i ds p r _
  split at hv
  · rename_i k hk'
    obtain ⟨⟨ho, ⟨h0, h1⟩, hz⟩, hk⟩ := hv
    obtain ⟨x, y, rfl, hx, hy⟩ := rreps2 hrs
    obtain ⟨vx, _⟩ := view_of (P := True) O hx (ls p (by simp))
    rw [hk'] at vx
    cases vx.int
    obtain ⟨F1, O1, t1, r1, _⟩ := freeze (P := True) O hy (ls r (by simp))
    obtain ⟨a, vs, rfl, e1, z, rv⟩ := own_at O1 ho (RRep.tr hr0 t1)
    have rn : Reps C S F1 (ds.take k.toNat ++ r.d :: ds.drop k.toNat) (vs.take k.toNat ++ [y] ++ vs.drop k.toNat) := by
      rw [List.append_assoc]
      exact (rv.take _).app (.cons r1 (rv.drop _))
    obtain ⟨O2, t2⟩ := O1.setOwn ho e1 rn
    have hl : ds.length < sizeLine := lim_lt hz
    have hb : (sizeLine : Nat) < 2 ^ 63 := line63
    exact mt_insert pins s σ' H _ _ v us Q I rx rxs ⟨a, vs, k, y, rfl, rfl, z, by rw [rv.len]; exact hl, h0, by omega, g (.val .non) _ _ _ _ O2 (t1.trans t2) rrep_non trivial hk⟩
  · exact hv.elim
theorem mt_indexV (hK : X.K = C.K) : MtR X "list.index" (rMet C .index) := by
  intro pins s σ' H x xs v us Q I rx rxs h
  obtain ⟨S, F0, H0, F, σ, ρ, r0, rs, K, O, hr0, hrs, l0, ls, hv, g⟩ := h
  unfold vMet at hv
  split at hv <;> try (rename_i hm; cases hm; done)
  all_goals try (exact hv.elim)
  all_goals try (rename_i hm _; cases hm; done)
  rename_i r _
  split at hv
  · rename_i ds hds
    obtain ⟨f1, f2, j, z, hj, hz, hno, hk⟩ := hv
    obtain ⟨y, rfl, hy⟩ := rreps1 hrs
    obtain ⟨vy, _⟩ := view_of (P := True) O hy (ls r (by simp))
    obtain ⟨vx, _⟩ := view_of (P := True) O hr0 l0
    rw [hds] at vx
    obtain ⟨a, vs, rfl, q, rv⟩ := vx.lst
    have ry := vy.flat f1
    obtain ⟨w, hw, rw1⟩ := rv.at hj
    have fz : z.flat = true := List.all_eq_true.mp f2 z (List.mem_of_getElem? hj)
    refine mt_index pins s σ' H _ _ v us Q I rx rxs ⟨a, vs, y, j, w, rfl, rfl, .of q, flat_rep f1 ry, flat_reps f2 rv, hw, by rw [eqF_rep rw1 ry fz f1]; exact hz, fun m z' hm hz' => ?_, g (.val (.int (j : Nat))) ρ _ _ _ O Tr.refl (rep_int (C := C) (S := S) (F := F)) trivial hk⟩
    obtain ⟨d, hd, rd⟩ := rv.at' hz'
    rw [eqF_rep rd ry (List.all_eq_true.mp f2 d (List.mem_of_getElem? hd)) f1]
    exact hno m d hm hd
  · exact hv.elim
end
end
end VL
set_option maxHeartbeats 4000000
/-! VLca: more methods; stores by index and key. -/
namespace VL
open PySem PySem.Spec PyProof.Rows L2
section
variable {C : CT} {S : SG} {F0 H0 F H F' H' : Hp} {σ : L2.St} {ρ : En} {a : Addr} {d : D} {v : V} {X : Cx}
theorem Reps.set {ds : List D} {vs : List V} {n : Nat} (h : Reps C S F ds vs) (r : Rep C S F d v) : Reps C S F (ds.set n d) (vs.set n v) := by
  induction ds generalizing vs n with
  | nil => unfold Reps at h; subst h; exact .nil
  | cons e ds ih =>
    unfold Reps at h
    obtain ⟨w, r', rfl, h1, h2⟩ := h
    cases n with
    | zero => exact .cons r h2
    | succ n => exact .cons h1 (ih h2)
theorem Reps.reverse {ds : List D} {vs : List V} (h : Reps C S F ds vs) : Reps C S F ds.reverse vs.reverse := by
  induction ds generalizing vs with
  | nil => unfold Reps at h; subst h; exact .nil
  | cons e ds ih =>
    unfold Reps at h
    obtain ⟨w, r', rfl, h1, h2⟩ := h
    rw [List.reverse_cons, List.reverse_cons]
    exact (ih h2).app (.cons h1 .nil)
/-- a slot's own dict -/
theorem own_dK {i : Nat} {ks : List L2.Key} {ds : List D} {x : V} (I : OK C S F0 H0 F H σ ρ) (h : ρ[i]? = some (.own (.dicK ks ds))) (e : RRep C S H0 F H σ ρ (.var i d) x) : ∃ a vs, x = .ref a ∧ σ[i]? = some (some (.ref a)) ∧ H a = some (.dK (ks.zip vs)) ∧ vs.length = ks.length ∧ Reps C S F ds vs := by
  obtain ⟨a, e1, _, _, _, _, z, vs, rfl, l, r⟩ := I.own i _ h
  have e' : σ[i]? = some (some x) := e
  rw [e'] at e1
  cases e1
  exact ⟨a, vs, rfl, e', z, l, r⟩
theorem own_dT {i : Nat} {ks : List (List L2.Key)} {ds : List D} {x : V} (I : OK C S F0 H0 F H σ ρ) (h : ρ[i]? = some (.own (.dicT ks ds))) (e : RRep C S H0 F H σ ρ (.var i d) x) : ∃ a vs, x = .ref a ∧ σ[i]? = some (some (.ref a)) ∧ H a = some (.dT (ks.zip vs)) ∧ vs.length = ks.length ∧ Reps C S F ds vs := by
  obtain ⟨a, e1, _, _, _, _, z, vs, rfl, l, r⟩ := I.own i _ h
  have e' : σ[i]? = some (some x) := e
  rw [e'] at e1
  cases e1
  exact ⟨a, vs, rfl, e', z, l, r⟩
def rSetV (C : CT) : TSet := fun o i v H Q => ∃ (S : SG) (F0 H0 F : Hp) (σ : L2.St) (ρ : En) (x k r : R) (K : En → Prop), OK C S F0 H0 F H σ ρ ∧ RRep C S H0 F H σ ρ x o ∧ RRep C S H0 F H σ ρ k i ∧ RRep C S H0 F H σ ρ r v ∧ x.lv ρ True ∧ k.lv ρ True ∧ r.lv ρ True ∧ vSet x k r ρ K ∧
  ∀ ρ' F' H', OK C S F0 H0 F' H' σ ρ' → Sub F F' → K ρ' → Q H'
theorem set_V (hu : X.A.units + 64 < cLine) : PSet X (rSetV C) := by
  intro pins s σ' H o i v ov iv u Q I ro ri rv h
  obtain ⟨S, F0, H0, F, σ, ρ, x, k, r, K, O, hx, hk, hr, lx, lk, lr, hv, g⟩ := h
  obtain ⟨vk, _⟩ := view_of (P := True) O hk lk
  obtain ⟨F1, O1, t1, r1, _⟩ := freeze (P := True) O hr lr
  unfold vSet at hv
  split at hv
  · rename_i j ds
    split at hv
    · rename_i n hn
      obtain ⟨ho, m, hm, hK⟩ := hv
      rw [hn] at vk
      cases vk.int
      obtain ⟨a, vs, rfl, e1, z, rv'⟩ := own_at O1 ho (RRep.tr hx t1)
      obtain ⟨O2, t2⟩ := O1.setOwn ho e1 (rv'.set (n := m) r1)
      exact set_list pins s σ' H _ _ v ov iv u Q I ro ri rv ⟨a, vs, n, m, rfl, rfl, z, by rw [rv'.len]; exact hm, g _ _ _ O2 (t1.f.trans t2.f) hK⟩
    · exact hv.elim
  · rename_i j ks ds
    obtain ⟨q, hq, ho, hl, hK⟩ := hv
    have ei := vk.key hq
    subst ei
    obtain ⟨a, vs, rfl, e1, z, l, rv'⟩ := own_dK O1 ho (RRep.tr hx t1)
    obtain ⟨O2, t2⟩ := O1.setOwnT (d1 := .dicK (kput ks q) (aset ks ds q r.d)) ho e1 ⟨aset ks vs q v, rfl, aset_len _ _ _ _ l, Reps.aset r1 rv'⟩
    refine set_dict (by omega) pins s σ' H _ _ v ov iv u Q I ro ri rv ⟨a, _, rfl, DPut.k z (by rw [List.length_zip, l, Nat.min_self]; exact lim_lt hl), ?_⟩
    rw [putK_zip _ _ _ _ l]
    exact g _ _ _ O2 (t1.f.trans t2.f) hK
  · rename_i j ks ds
    split at hv
    · rename_i ys hy
      obtain ⟨q, hq, ho, hl, hK⟩ := hv
      rw [hy] at vk
      obtain ⟨b, rfl, zb⟩ := vk.keyT O.sub hq
      obtain ⟨a, vs, rfl, e1, z, l, rv'⟩ := own_dT O1 ho (RRep.tr hx t1)
      obtain ⟨O2, t2⟩ := O1.setOwnT (d1 := .dicT (kput ks q) (aset ks ds q r.d)) ho e1 ⟨aset ks vs q v, rfl, aset_len _ _ _ _ l, Reps.aset r1 rv'⟩
      refine set_dict (by omega) pins s σ' H _ _ v ov iv u Q I ro ri rv ⟨a, _, rfl, DPut.t z zb (by rw [List.length_zip, l, Nat.min_self]; exact lim_lt hl), ?_⟩
      rw [putK_zip _ _ _ _ l]
      exact g _ _ _ O2 (t1.f.trans t2.f) hK
    · exact hv.elim
  · exact hv.elim
theorem get_list {xs : List V} {k : Int} {w : V} {p : Addr} {pins : List (Addr × Obj)} {s : Shared} {σ : L2.St} {iv : Value} {Q : VK} (I : Inv X pins σ H s) (h : SqL X.K H p xs) (ri : RelV (.int k) iv) (e : L2.atI xs k = some w) (q : Q w H) : wpAny (model X.prog X.w) X.A (getItem (.ref p) iv) (EP X pins σ Q) X.xe s := by
  obtain ⟨t, rfl⟩ := ri
  obtain ⟨its, r, pl, hz⟩ := I.list h
  obtain ⟨j, h1, h2, h3, h4, h5⟩ := atI_get e
  obtain ⟨w', ew, rw'⟩ := r.get h2
  have hl := r.length
  have hn := line63
  have fin : EP X pins σ Q w' s := ⟨w, H, I, rw', q⟩
  by_cases h0 : 0 ≤ k
  · have hj : k.toNat = j := by
      rw [seqIndex_of h0 h5] at h1
      exact Option.some.inj h1
    exact wpAny_getItem_list pl.isList h0 (by omega) (by rw [hj]; simpa using ew) fin
  · have hj : (k + (its.toArray.size : Int)).toNat = j := by
      rw [seqIndex_neg (by omega) h4] at h1
      rw [List.size_toArray, ← hl]
      exact Option.some.inj h1
    exact wpAny_getItem_list_neg pl.isList (by omega) (by rw [List.size_toArray] <;> omega) (by omega) (by rw [hj]; simpa using ew) fin
theorem get_tup {xs : List V} {k : Int} {w : V} {p : Addr} {pins : List (Addr × Obj)} {s : Shared} {σ : L2.St} {iv : Value} {Q : VK} (I : Inv X pins σ H s) (h : SqT X.K H p xs) (ri : RelV (.int k) iv) (e : L2.atI xs k = some w) (q : Q w H) : wpAny (model X.prog X.w) X.A (getItem (.ref p) iv) (EP X pins σ Q) X.xe s := by
  obtain ⟨t, rfl⟩ := ri
  obtain ⟨its, r, pl, hz⟩ := I.tuple h
  obtain ⟨j, h1, h2, h3, h4, h5⟩ := atI_get e
  obtain ⟨w', ew, rw'⟩ := r.get h2
  have hl := r.length
  have hn := line63
  exact getItem_tuple (j := j) pl (by omega) (by omega) (by rw [List.size_toArray, ← hl]; exact h1) (by simpa using ew) ⟨w, H, I, rw', q⟩
/-- o[i] by values, where o is a list or a dict -/
def rGetV (C : CT) : V → V → Hp → VK → Prop := fun x y H Q => ∃ (S : SG) (F : Hp) (dx dy : D), Sub F H ∧ View C S F H dx x ∧ View C S F H dy y ∧ dx.ownable = true ∧ vIx dx dy fun d => ∀ v, Rep C S F d v → Q v H
theorem get_V (hK : X.K = C.K) (hu : X.A.units + 64 < cLine) : PGet X (rGetV C) := by
  intro pins s σ' H x y v u Q I rx ry h
  obtain ⟨S, F, dx, dy, hs, hx, hy, hd, hv⟩ := h
  unfold vIx at hv
  split at hv
  · obtain ⟨a, vs, rfl, q, r⟩ := hx.lst
    cases hy.int
    obtain ⟨d, e, k⟩ := hv
    obtain ⟨w, e2, rw1⟩ := atI_reps r e
    cases rx
    exact get_list I (.of q) ry e2 (k w rw1)
  · cases hd
  · cases hd
  · obtain ⟨k, d, ek, ed, hk⟩ := hv
    obtain ⟨a, vs, rfl, q, l, r⟩ := hx.dicK
    have ey := hy.key ek
    subst ey
    obtain ⟨w, ew, rw1⟩ := r.dget.1 d ed
    have g := DGet.k (k := k) q
    rw [valV_zip, ew] at g
    cases rx
    exact d_getItem (by omega) I g ry fun w' s3 I3 rw' => ⟨w, H, I3, rw', hk w rw1⟩
  · obtain ⟨k, d, ek, ed, hk⟩ := hv
    obtain ⟨a, vs, rfl, q, l, r⟩ := hx.dicT
    obtain ⟨b, rfl, zb⟩ := hy.keyT hs ek
    obtain ⟨w, ew, rw1⟩ := r.dget.1 d ed
    have g := DGet.t (k := k) q zb
    rw [valV_zip, ew] at g
    cases rx
    exact d_getItem (by omega) I g ry fun w' s3 I3 rw' => ⟨w, H, I3, rw', hk w rw1⟩
  · exact hv.elim
def rIpV (C : CT) (op : Operator) : V → V → Hp → VK → Prop := fun x y H Q => ∃ (S : SG) (F : Hp) (dx dy : D), View C S F H dx x ∧ View C S F H dy y ∧ vIp op dx dy fun d => ∀ v, Rep C S F d v → Q v H
theorem ip_V (op : Operator) : PIp X op (rIpV C op) := by
  intro pins s σ' H x y v u Q I rx ry h
  obtain ⟨S, F, dx, dy, hx, hy, hv⟩ := h
  unfold vIp at hv
  split at hv
  · cases hx.int; cases hy.int
    exact ip_add pins s σ' H _ _ v u Q I rx ry ⟨_, _, rfl, rfl, hv _ rep_int⟩
  · cases hx.int; cases hy.int
    exact ip_sub pins s σ' H _ _ v u Q I rx ry ⟨_, _, rfl, rfl, hv _ rep_int⟩
  · exact hv.elim

/-! ### methods -/
theorem mt_reverseV : MtR X "list.reverse" (rMet C .reverse) := by
  intro pins s σ' H x xs v us Q I rx rxs h
  obtain ⟨S, F0, H0, F, σ, ρ, r0, rs, K, O, hr0, hrs, l0, ls, hv, g⟩ := h
  unfold vMet at hv
  split at hv <;> try (rename_i hm; cases hm; done)
  all_goals try (exact hv.elim)
  all_goals try (rename_i hm _; cases hm; done)
  rename_i i ds _
  obtain ⟨ho, hk⟩ := hv
  cases (show xs = [] from hrs)
  obtain ⟨a, vs, rfl, e1, z, rv⟩ := own_at O ho hr0
  obtain ⟨O2, t2⟩ := O.setOwn ho e1 rv.reverse
  exact mt_reverse pins s σ' H _ _ v us Q I rx rxs ⟨a, vs, rfl, rfl, z, g (.val .non) _ _ _ _ O2 t2 rrep_non trivial hk⟩
theorem scal_view (h : d.scal = true) (r : View C S F H d v) : Rep C S F' d v := by
  cases d <;> first | (cases h; done) | exact Rep.scal (C := C) (S := S) (F := F) h r
theorem mt_getV (hu : X.A.units + 64 < cLine) : MtR X "dict.get" (rMet C .get) := by
  intro pins s σ' H x xs v us Q I rx rxs h
  obtain ⟨S, F0, H0, F, σ, ρ, r0, rs, K, O, hr0, hrs, l0, ls, hv, g⟩ := h
  unfold vMet at hv
  split at hv <;> try (rename_i hm; cases hm; done)
  all_goals try (exact hv.elim)
  all_goals try (rename_i hm _; cases hm; done)
  rename_i k z _
  obtain ⟨y1, y2, rfl, hy1, hy2⟩ := rreps2 hrs
  obtain ⟨vx, _⟩ := view_of (P := True) O hr0 l0
  obtain ⟨v1, _⟩ := view_of (P := True) O hy1 (ls k (by simp))
  obtain ⟨v2, _⟩ := view_of (P := True) O hy2 (ls z (by simp))
  have fin : ∀ (o : Option D) (p : Option V), (∀ d, o = some d → ∃ w, p = some w ∧ Rep C S F d w) → (o = none → p = none) → z.d.scal = true → Rep C S F (o.getD z.d) (p.getD y2) := fun o p h1 h2 hz => by
    cases o with
    | none => rw [h2 rfl]; exact scal_view hz v2
    | some d =>
      obtain ⟨w, e, r⟩ := h1 d rfl
      rw [e]
      exact r
  cases rxs with
  | cons r1 rr => cases rr with
    | cons r2 rr =>
      cases rr
      split at hv
      · rename_i ks ds hd
        obtain ⟨q, hq, hz, hk⟩ := hv
        rw [hd] at vx
        obtain ⟨a, vs, rfl, e, l, r⟩ := vx.dicK
        have ey := v1.key hq
        subst ey
        have gg := DGet.k (k := q) e
        rw [valV_zip] at gg
        cases rx
        obtain ⟨a1, a2⟩ := r.dget (k := q) (ks := ks)
        exact d_get2 (by omega) I gg r1 r2 fun w' s4 I4 rw' => ⟨_, H, I4, rw', g (.val _) ρ _ _ _ O Tr.refl (fin _ _ a1 a2 hz) trivial hk⟩
      · rename_i ks ds hd
        split at hv
        · rename_i ys hy
          obtain ⟨q, hq, hz, hk⟩ := hv
          rw [hd] at vx
          rw [hy] at v1
          obtain ⟨a, vs, rfl, e, l, r⟩ := vx.dicT
          obtain ⟨b, rfl, zb⟩ := v1.keyT O.sub hq
          have gg := DGet.t (k := q) e zb
          rw [valV_zip] at gg
          cases rx
          obtain ⟨a1, a2⟩ := r.dget (k := q) (ks := ks)
          exact d_get2 (by omega) I gg r1 r2 fun w' s4 I4 rw' => ⟨_, H, I4, rw', g (.val _) ρ _ _ _ O Tr.refl (fin _ _ a1 a2 hz) trivial hk⟩
        · exact hv.elim
      · exact hv.elim
theorem vTxt_ok {K : Str → Prop} (h : vTxt d K) : ∃ s, d = .str s ∧ K s := by
  cases d <;> first | exact ⟨_, rfl, h⟩ | exact h.elim
/-- a method of a text without arguments -/
theorem mt_txt0 {m : M} {id : String} {f : Str → D} {g : Str → V} {c : Str → Prop} {c' : Str → Prop} (rule : MtR X id (fun x xs H Q => ∃ a, x = .str a ∧ xs = [] ∧ c a ∧ Q (g a) H)) (hc : ∀ a, c' a → c a) (hg : ∀ a S F, Rep C S F (f a) (g a))
    (he : ∀ r0 rs ρ (K : EK), vMet m r0 rs ρ K → rs = [] ∧ vTxt r0.d fun s => c' s ∧ K (.val (f s)) ρ) : MtR X id (rMet C m) := by
  intro pins s σ' H x xs v us Q I rx rxs h
  obtain ⟨S, F0, H0, F, σ, ρ, r0, rs, K, O, hr0, hrs, l0, ls, hv, gg⟩ := h
  obtain ⟨e, hv2⟩ := he _ _ _ _ hv
  subst e
  cases (show xs = [] from hrs)
  obtain ⟨t, ht, h1, h2⟩ := vTxt_ok hv2
  obtain ⟨vx, _⟩ := view_of (P := True) O hr0 l0
  rw [ht] at vx
  cases vx.str
  exact rule pins s σ' H _ _ v us Q I rx rxs ⟨t, rfl, rfl, hc t h1, gg (.val (f t)) ρ _ _ _ O Tr.refl (hg t S F) trivial h2⟩
theorem mt_upperV : MtR X "str.upper" (rMet C .upper) := mt_txt0 (c' := fun s => s.length ≤ lim) mt_upper (fun a h => Nat.le_trans h (by decide)) (fun a S F => rep_str) fun r0 rs ρ K h => by
  unfold vMet at h
  split at h <;> first | (rename_i hm _; cases hm; done) | (rename_i hm; cases hm; done) | exact h.elim | exact ⟨rfl, h⟩
theorem mt_isalphaV : MtR X "str.isalpha" (rMet C .isalpha) := mt_txt0 (c' := fun s => True) mt_isalpha (fun a h => h) (fun a S F => rep_bl) fun r0 rs ρ K h => by
  unfold vMet at h
  split at h <;> first | (rename_i hm _; cases hm; done) | (rename_i hm; cases hm; done) | exact h.elim | (obtain ⟨s, e, k⟩ := vTxt_ok h; refine ⟨rfl, ?_⟩; rw [e]; exact ⟨trivial, k⟩)
theorem mt_isdigitV : MtR X "str.isdigit" (rMet C .isdigit) := mt_txt0 (c' := fun s => True) mt_isdigit (fun a h => h) (fun a S F => rep_bl) fun r0 rs ρ K h => by
  unfold vMet at h
  split at h <;> first | (rename_i hm _; cases hm; done) | (rename_i hm; cases hm; done) | exact h.elim | (obtain ⟨s, e, k⟩ := vTxt_ok h; refine ⟨rfl, ?_⟩; rw [e]; exact ⟨trivial, k⟩)
theorem mt_isalnumV : MtR X "str.isalnum" (rMet C .isalnum) := mt_txt0 (c' := fun s => True) mt_isalnum (fun a h => h) (fun a S F => rep_bl) fun r0 rs ρ K h => by
  unfold vMet at h
  split at h <;> first | (rename_i hm _; cases hm; done) | (rename_i hm; cases hm; done) | exact h.elim | (obtain ⟨s, e, k⟩ := vTxt_ok h; refine ⟨rfl, ?_⟩; rw [e]; exact ⟨trivial, k⟩)
/-- with one text more -/
theorem rreps1s {rs : List R} {xs : List V} {r : R} {t : Str} (O : OK C S F0 H0 F H σ ρ) (e : rs = [r]) (hrs : RReps C S H0 F H σ ρ rs xs) (ls : ∀ r ∈ rs, r.lv ρ True) (ht : r.d = .str t) : xs = [.str t] := by
  subst e
  obtain ⟨y, rfl, hy⟩ := rreps1 hrs
  obtain ⟨vy, _⟩ := view_of (P := True) O hy (ls r (by simp))
  rw [ht] at vy
  cases vy.str
  rfl
theorem mt_startswithV : MtR X "str.startswith" (rMet C .startswith) := by
  intro pins s σ' H x xs v us Q I rx rxs h
  obtain ⟨S, F0, H0, F, σ, ρ, r0, rs, K, O, hr0, hrs, l0, ls, hv, g⟩ := h
  unfold vMet at hv
  split at hv <;> first | (rename_i hm _; cases hm; done) | (rename_i hm; cases hm; done) | exact hv.elim | skip
  obtain ⟨t, ht, hv⟩ := vTxt_ok hv
  obtain ⟨t', ht', hk⟩ := vTxt_ok hv
  obtain ⟨vx, _⟩ := view_of (P := True) O hr0 l0
  rw [ht] at vx
  cases vx.str
  cases rreps1s O rfl hrs ls ht'
  exact mt_startswith pins s σ' H _ _ v us Q I rx rxs ⟨t, t', rfl, rfl, g (.val (.bl _)) ρ _ _ _ O Tr.refl (rep_bl (C := C) (S := S) (F := F)) trivial hk⟩
theorem mt_countV : MtR X "str.count" (rMet C .count) := by
  intro pins s σ' H x xs v us Q I rx rxs h
  obtain ⟨S, F0, H0, F, σ, ρ, r0, rs, K, O, hr0, hrs, l0, ls, hv, g⟩ := h
  unfold vMet at hv
  split at hv <;> first | (rename_i hm _; cases hm; done) | (rename_i hm; cases hm; done) | exact hv.elim | skip
  obtain ⟨t, ht, hv⟩ := vTxt_ok hv
  obtain ⟨t', ht', hk⟩ := vTxt_ok hv
  obtain ⟨vx, _⟩ := view_of (P := True) O hr0 l0
  rw [ht] at vx
  cases vx.str
  cases rreps1s O rfl hrs ls ht'
  exact mt_count pins s σ' H _ _ v us Q I rx rxs ⟨t, t', rfl, rfl, g (.val (.int _)) ρ _ _ _ O Tr.refl (rep_int (C := C) (S := S) (F := F)) trivial hk⟩
theorem mt_splitV : MtR X "str.split" (rMet C .split) := by
  intro pins s σ' H x xs v us Q I rx rxs h
  obtain ⟨S, F0, H0, F, σ, ρ, r0, rs, K, O, hr0, hrs, l0, ls, hv, g⟩ := h
  unfold vMet at hv
  split at hv <;> first | (rename_i hm _; cases hm; done) | (rename_i hm; cases hm; done) | exact hv.elim | skip
  obtain ⟨t, ht, hv⟩ := vTxt_ok hv
  obtain ⟨t', ht', ⟨h1, h2⟩, hk⟩ := vTxt_ok hv
  obtain ⟨vx, _⟩ := view_of (P := True) O hr0 l0
  rw [ht] at vx
  cases vx.str
  cases rreps1s O rfl hrs ls ht'
  have el : lim + 2 ≤ sizeLine := by decide
  refine mt_split pins s σ' H _ _ v us Q I rx rxs ⟨t, t', rfl, rfl, beq_eq_false_iff_ne.mpr h2, by omega, fun p hp => ?_⟩
  have nn := O.new hp
  exact g (.tmp (.lst ((Txt.split t t').map .str))) ρ _ _ _ (O.newO hp _) (Tr.newO hp _) ⟨p, rfl, nn.1, nn.2.1, O.noslot hp, _, upd_same, _, rfl, reps_strs _⟩ (fun b e => by cases e; exact nn.2.2) hk
theorem mt_partitionV : MtR X "str.partition" (rMet C .partition) := by
  intro pins s σ' H x xs v us Q I rx rxs h
  obtain ⟨S, F0, H0, F, σ, ρ, r0, rs, K, O, hr0, hrs, l0, ls, hv, g⟩ := h
  unfold vMet at hv
  split at hv <;> first | (rename_i hm _; cases hm; done) | (rename_i hm; cases hm; done) | exact hv.elim | skip
  obtain ⟨t, ht, hv⟩ := vTxt_ok hv
  obtain ⟨t', ht', ⟨h1, h2⟩, hk⟩ := vTxt_ok hv
  obtain ⟨vx, _⟩ := view_of (P := True) O hr0 l0
  rw [ht] at vx
  cases vx.str
  cases rreps1s O rfl hrs ls ht'
  refine mt_partition pins s σ' H _ _ v us Q I rx rxs ⟨t, t', rfl, rfl, beq_eq_false_iff_ne.mpr h2, Nat.le_trans h1 lim_le, fun p hp => ?_⟩
  refine g (.val (.tup _)) ρ _ _ _ (O.newF hp _) (Tr.newF hp (O.new hp).2.2 _) ?_ trivial hk
  exact ⟨p, _, rfl, upd_same, .cons rep_str (.cons rep_str (.cons rep_str .nil))⟩
theorem mt_joinV : MtR X "str.join" (rMet C .join) := by
  intro pins s σ' H x xs v us Q I rx rxs h
  obtain ⟨S, F0, H0, F, σ, ρ, r0, rs, K, O, hr0, hrs, l0, ls, hv, g⟩ := h
  unfold vMet at hv
  split at hv <;> first | (rename_i hm _; cases hm; done) | (rename_i hm; cases hm; done) | exact hv.elim | skip
  obtain ⟨t, ht, hv⟩ := vTxt_ok hv
  split at hv
  · rename_i ds hd
    obtain ⟨ys, hy, hl, hk⟩ := hv
    obtain ⟨vx, _⟩ := view_of (P := True) O hr0 l0
    rw [ht] at vx
    cases vx.str
    obtain ⟨y, rfl, hy'⟩ := rreps1 hrs
    obtain ⟨vy, _⟩ := view_of (P := True) O hy' (ls _ (by simp))
    rw [hd] at vy
    obtain ⟨a, vs, rfl, q, r⟩ := vy.lst
    have e := r.strsD hy
    subst e
    exact mt_join pins s σ' H _ _ v us Q I rx rxs ⟨t, a, ys, rfl, rfl, .inl (.of q), Nat.le_trans hl lim_le, g (.val (.str _)) ρ _ _ _ O Tr.refl (rep_str (C := C) (S := S) (F := F)) trivial hk⟩
  · exact hv.elim
end
end VL
set_option maxHeartbeats 4000000
/-! VLd: from a def's text to the language; contexts; what an expression's reading is. -/
namespace VL
open PySem PySem.Spec PyProof.Rows L2

/-! ### from the text -/
/-- what is known of the def's names: its slots, its scope, which names it stores, the module's defs by number, constants, the built-in names that the module leaves alone -/
structure CC where
  N : List Str
  sc : Scope
  fn : Str → Bool
  fns : List (Str × Nat)
  cons : List (Str × D)
  blt : List Str
  /-- within an except suite -/
  hot : Bool
  /-- fields of classes by name: (class, which) -/
  flds : List (Str × List (Nat × Nat))
  /-- classes by name, as isinstance and except ask: (class, answer) -/
  isx : List (Str × List (Nat × Bool))
  /-- own exception classes by name -/
  cons2 : List (Str × Nat × Nat)
  /-- the defs that are called within an except suite -/
  hfns : List (Str × Nat)
  /-- own classes that are made by a call: the number of the __init__ -/
  mks : List (Str × Nat) := []
  /-- fields of own objects: (class, which) -/
  ofl : List (Str × Nat × Nat) := []
  /-- methods of own objects: (class, number) -/
  mtd : List (Str × Nat × Nat) := []
  /-- the class with an __iter__ that gives an iterator of a field -/
  itf : Option (Nat × Nat) := none
def okN (x : Str) : Bool := decide ((x == ("__debug__" : Str)) = false) && decide ((x == ("__classdict__" : Str)) = false)
def ixOf (x : Str) : List Str → Option Nat
  | [] => none
  | y :: ys => if decide (y = x) then some 0 else (ixOf x ys).map (· + 1)
theorem ixOf_ok {x : Str} : ∀ {N : List Str} {i : Nat}, ixOf x N = some i → N[i]? = some x
  | [], _, h => by cases h
  | y :: ys, i, h => by
    unfold ixOf at h
    by_cases e : y = x
    · rw [decide_eq_true e] at h
      cases h
      simp [e]
    · rw [decide_eq_false e] at h
      simp only [Bool.false_eq_true, if_false, Option.map_eq_some_iff] at h
      obtain ⟨j, hj, rfl⟩ := h
      simpa using ixOf_ok hj
def CC.kind (cc : CC) (x : Str) : Option NameKind := cc.sc.names.lookup x
def CC.see (cc : CC) (x : Str) : Bool := okN x && (match cc.kind x with
  | some .local => true
  | some .cell => true
  | some .free => true
  | _ => false)
def CC.put (cc : CC) (x : Str) : Bool := match cc.kind x with
  | some .local => true
  | some .cell => cc.fn x
  | _ => false
def CC.gl (cc : CC) (x : Str) : Bool := okN x && (match cc.kind x with
  | some .globalImplicit => true
  | _ => false)
def CC.free (cc : CC) (x : Str) : Bool := cc.gl x && decide (x ∈ cc.blt) && decide (x ≠ ("__name__" : Str))
def CC.blk (cc : CC) (scope : Scope) : CC := { cc with sc := relS scope cc.sc, fn := fun x => scope.names.lookup x == some .cell }
/-- within an except suite -/
def CC.heat (cc : CC) : CC := { cc with hot := true, fns := cc.hfns }
def isStar : Expr → Bool
  | .Starred _ _ => true
  | _ => false
def isSlice : Expr → Bool
  | .Slice _ _ _ _ => true
  | _ => false
def isSet : Expr → Bool
  | .Set _ _ _ => true
  | _ => false
def mapE (f : Expr → VE) : List Expr → VEs
  | [] => .nil
  | e :: es => .cons (f e) (mapE f es)
def andC (f : Expr → VC) : List Expr → VC
  | [] => .tv .bad
  | [a] => f a
  | a :: b :: r => .tand (f a) (andC f (b :: r))
def orC (f : Expr → VC) : List Expr → VC
  | [] => .tv .bad
  | [a] => f a
  | a :: b :: r => .tor (f a) (orC f (b :: r))
def andV (f : Expr → VE) : List Expr → VE
  | [] => .bad
  | [a] => f a
  | a :: b :: r => .andE (f a) (andV f (b :: r))
def orV (f : Expr → VE) : List Expr → VE
  | [] => .bad
  | [a] => f a
  | a :: b :: r => .orE (f a) (orV f (b :: r))
def mapG (f : Expr → VG) : List Expr → VGs
  | [] => .nil
  | e :: es => .cons (f e) (mapG f es)
def cG : Nat → CC → Expr → VG
  | 0, _, _ => .bad
  | n + 1, cc, .Name x _ => if cc.put x then (match ixOf x cc.N with
    | some i => .nm i
    | none => .bad) else .bad
  | n + 1, cc, .Tuple es _ _ => if !cc.hot && es.all (fun e => !isStar e) then .tp (mapG (cG n cc) es) else .bad
  | _ + 1, _, _ => .bad
def bNames : List (Str × B) := [("len", .len), ("abs", .abs), ("max", .max), ("min", .min), ("int", .int), ("sum", .sum), ("any", .any), ("all", .all), ("sorted", .sorted), ("list", .list), ("tuple", .tuple), ("str", .str)]
def tNames : List (Str × String) := [("bool", "bool"), ("int", "int"), ("str", "str"), ("list", "list"), ("tuple", "tuple"), ("dict", "dict")]
def mNames : List (Str × M) := [("append", .append), ("pop", .pop), ("extend", .extend), ("insert", .insert), ("index", .index), ("reverse", .reverse), ("get", .get), ("upper", .upper), ("isalpha", .isalpha), ("isdigit", .isdigit), ("isalnum", .isalnum), ("join", .join), ("startswith", .startswith), ("count", .count), ("split", .split), ("partition", .partition)]
/-- a comprehension's own names and their slots -/
def ownOf (N : List Str) (scope : Scope) : List (Str × Nat) := scope.names.filterMap fun y => match y.2 with
  | .local => (ixOf y.1 N).map fun i => (y.1, i)
  | .cell => (ixOf y.1 N).map fun i => (y.1, i)
  | _ => none
def noStars (es : List Expr) : Bool := es.all fun e => !isStar e
/-- an expression whose method is asked plainly -/
def plainO : Expr → Bool
  | .Call _ _ _ _ => false
  | _ => true
def dunder : Operator → Option Str
  | .Add => some "__add__"
  | .Sub => some "__sub__"
  | .Mult => some "__mul__"
  | _ => none
/-- the method of own objects at an operator -/
def CC.dun (cc : CC) (op : Operator) : Option (Nat × Nat) := if cc.hot then none else match dunder op with
  | some x => cc.mtd.lookup x
  | none => none
def CC.own (cc : CC) (x : Str) : Option (Nat × Nat) := if cc.hot then none else cc.mtd.lookup x
def CC.iter (cc : CC) : Option (Nat × Nat) := if cc.hot then none else cc.itf
/-- range(..) of one or two parts -/
def isRange (cc : CC) : List Expr → Bool
  | [.Call (.Name f _) args [] _] => cc.free f && decide (f = ("range" : Str)) && noStars args && (decide (args.length = 1) || decide (args.length = 2))
  | _ => false
def cIt (cc : CC) (e : VE) : VI := match cc.iter with
  | some (c, i) => .itO c i e
  | none => .it e
mutual
def cE : Nat → CC → Expr → VE
  | 0, _, _ => .bad
  | n + 1, cc, e => match e with
    | .Name x _ => if cc.see x then (match ixOf x cc.N with
        | some i => .var i
        | none => .bad)
      else if cc.gl x then (match cc.cons.lookup x with
        | some d => .cst d
        | none => .bad) else .bad
    | .Constant (.int i) _ _ => .cst (.int i)
    | .Constant (.bool b) _ _ => .cst (.bl b)
    | .Constant .none _ _ => .cst .non
    | .Constant (.str s) _ _ => .cst (.str s)
    | .BinOp a op b _ => (match cc.dun op with
      | some (c, k) => .binO op c k (cE n cc a) (cE n cc b)
      | none => .bin op (cE n cc a) (cE n cc b))
    | .UnaryOp .USub a _ => (match cc.own "__neg__" with
      | some (c, k) => .negO c k (cE n cc a)
      | none => .neg (cE n cc a))
    | .UnaryOp .Not a _ => .notE (cE n cc a)
    | .Dict [] [] _ => .dnew
    | .BoolOp .And es _ => andV (cE n cc) es
    | .BoolOp .Or es _ => orV (cE n cc) es
    | .Compare a [op] [b] _ => if behindInMarks op b then .bad else (match op, cc.own "__eq__" with
      | .Eq, some (c, k) => .cmpO false c k (cE n cc a) (cE n cc b)
      | op, _ => .cmp op (cE n cc a) (cE n cc b))
    | .Compare a [op, op'] [b, c] _ => if behindInMarks op b || behindInMarks op' c then .bad else .chn op op' (cE n cc a) (cE n cc b) (cE n cc c)
    | .IfExp t a b _ => .ife (cC n cc t) (cE n cc a) (cE n cc b)
    | .Tuple es _ _ => if decide (es.length ≤ 1000) && noStars es then .tup (mapE (cE n cc) es) else .bad
    | .List es _ => if decide (es.length ≤ 1000) && noStars es then .lst (mapE (cE n cc) es) else .bad
    | .Subscript a (.Slice lo hi none _) _ => .sl (cE n cc a) (match lo with
        | some e => .some (cE n cc e)
        | none => .none) (match hi with
        | some e => .some (cE n cc e)
        | none => .none)
    | .Subscript a i _ => if isSlice i then .bad else .ix (cE n cc a) (cE n cc i)
    | .Call (.Name f _) args [] _ => if !cc.gl f || !noStars args || args.isEmpty then (if !cc.see f || !noStars args || args.isEmpty then .bad else match cc.own "__call__", ixOf f cc.N with
          | some (c, k), some i => .calO c k i (mapE (cE n cc) args)
          | _, _ => .bad)
        else match cc.fns.lookup f with
        | some k => .call k (mapE (cE n cc) args)
        | none => match (if cc.hot then none else cc.mks.lookup f) with
        | some k => .call k (mapE (cE n cc) args)
        | none => if !cc.free f then .bad else if decide (f = ("list" : Str)) && (cc.iter.isSome && !(isRange cc args)) then (match cc.iter, args with
            | some (c, i), [a] => .lstO c i (cE n cc a)
            | _, _ => .bad)
          else if decide (f = ("len" : Str)) && (cc.own "__len__").isSome then (match cc.own "__len__", args with
            | some (c, k), [a] => .lenO c k (cE n cc a)
            | _, _ => .bad)
          else if decide (f = ("list" : Str)) && (isRange cc args && !cc.hot) then (match args with
            | [.Call _ [a] _ _] => .lrg .none (cE n cc a)
            | [.Call _ [a, b] _ _] => .lrg (.some (cE n cc a)) (cE n cc b)
            | _ => .bad)
          else if decide (f = ("isinstance" : Str)) then (match args with
            | [a, .Name t _] => (match (if cc.free t then tNames.lookup t else none) with
              | some m => .isin (cE n cc a) (.bi m)
              | none => if cc.hot && cc.gl t then (match cc.isx.lookup t with
                | some tab => .isin (cE n cc a) (.own tab)
                | none => .bad) else .bad)
            | _ => .bad)
          else match bNames.lookup f with
            | some b => if !cc.hot || b.hotOk then .blt b (mapE (cE n cc) args) else .bad
            | none => .bad
    | .Call (.Attribute o m ap) args [] cp => if !noStars args || !(ap.endLine == cp.line) || decide (20 < args.length) || !plainO o then .bad else match cc.own m with
        | some (c, k) => .mcl c k (cE n cc o) (mapE (cE n cc) args)
        | none => (match mNames.lookup m with
          | some k => .met k (cE n cc o) (mapE (cE n cc) args)
          | none => .bad)
    | .Call (.Subscript o i sp) args [] _ => if !noStars args || args.isEmpty then .bad else match cc.own "__call__" with
        | some (c, k) => .mcl c k (cE n cc (.Subscript o i sp)) (mapE (cE n cc) args)
        | none => .bad
    | .Attribute o f _ => (match o with
      | .Name _ _ => if cc.hot then (match cc.flds.lookup f with
        | some tab => .fld (cE n cc o) tab
        | none => .bad) else (match cc.ofl.lookup f with
        | some (c, i) => .fldO (cE n cc o) c i
        | none => .bad)
      | _ => .bad)
    | .ListComp elt [⟨g, it, ifs, 0⟩] scope _ => if !cc.hot && (blkC cc.N cc.sc scope (ownOf cc.N scope) && !isSet it && (cG n (cc.blk scope) g).slots.all (fun i => ((ownOf cc.N scope).map (·.2)).contains i)) then
        .comp ((ownOf cc.N scope).map (·.2)) (cE n (cc.blk scope) elt) (cG n (cc.blk scope) g) (cI n cc g it) (match ifs with
          | [] => .tyes
          | [t] => cC n (cc.blk scope) t
          | _ => .tv .bad) else .bad
    | _ => .bad
def cC : Nat → CC → Expr → VC
  | 0, _, _ => .tv .bad
  | n + 1, cc, e => match e with
    | .UnaryOp .Not a _ => .tnot (cC n cc a)
    | .BoolOp .And es _ => andC (cC n cc) es
    | .BoolOp .Or es _ => orC (cC n cc) es
    | .IfExp _ _ _ _ => .tv .bad
    | .Compare a [op] [b] _ => .tv (if behindInMarks op b then .bad else (match op, cc.own "__eq__" with
      | .Eq, some (c, k) => .cmpO false c k (cE n cc a) (cE n cc b)
      | op, _ => .cmp op (cE n cc a) (cE n cc b)))
    | .Compare a [op, op'] [b, c] _ => .tv (if behindInMarks op b || behindInMarks op' c then .bad else .chn op op' (cE n cc a) (cE n cc b) (cE n cc c))
    | .Compare _ _ _ _ => .tv .bad
    | e => .tv (cE n cc e)
def cI : Nat → CC → Expr → Expr → VI
  | 0, _, _, _ => .it .bad
  | n + 1, cc, g, e => match e with
    | .Call (.Name f _) args [] _ => if !cc.free f || !noStars args then cIt cc (cE n cc e)
      else if decide (f = ("range" : Str)) then (match args with
        | [a] => .rng (.cons (cE n cc a) .nil)
        | [a, b] => .rng (.cons (cE n cc a) (.cons (cE n cc b) .nil))
        | _ => .it .bad)
      else if decide (f = ("enumerate" : Str)) then (match g, args with
        | .Tuple _ _ _, [a] => .enum (cE n cc a)
        | _, _ => .it .bad)
      else if decide (f = ("zip" : Str)) then (match g, args with
        | .Tuple _ _ _, [a, b] => .zip (cE n cc a) (cE n cc b)
        | .Tuple _ _ _, [a, b, c] => .zip3 (cE n cc a) (cE n cc b) (cE n cc c)
        | _, _ => .it .bad)
      else cIt cc (cE n cc e)
    | e => cIt cc (cE n cc e)
end
/-- a comprehension (its frame may be swapped in a store) -/
def isLc : Expr → Bool
  | .ListComp _ _ _ _ => true
  | .SetComp _ _ _ _ => true
  | .DictComp _ _ _ _ _ => true
  | _ => false
def mapS (f : Stmt → VS) : List Stmt → VSs
  | [] => .nil
  | s :: ss => .cons (f s) (mapS f ss)
def cS : Nat → CC → Stmt → VS
  | 0, _, _ => .bad
  | n + 1, cc, s => match s with
    | .Pass _ => .pass
    | .Break _ => .brk
    | .Continue _ => .cnt
    | .Return none _ => .retN
    | .Return (some e) _ => .ret (cE n cc e)
    | .Expr e _ => (match e with
      | .Constant (.str _) _ _ => .pass
      | .Constant _ _ _ => .bad
      | .ListComp _ _ _ _ => .bad
      | .SetComp _ _ _ _ => .bad
      | .DictComp _ _ _ _ _ => .bad
      | e => .ex (cE n cc e))
    | .Assign [g] e _ => (match g, e with
      | .Tuple [.Name x _, .Name y _] _ _, .Tuple [a, b] _ _ => .bad
      | .Tuple _ _ _, .Tuple _ _ _ => .bad
      | .Tuple _ _ _, .ListComp _ _ _ _ => .bad
      | .Tuple gs k p, e => .asg (cG n cc (.Tuple gs k p)) (cE n cc e)
      | .Name x p, e => (match cG n cc (.Name x p) with
        | .nm i => .asg (.nm i) (cE n cc e)
        | _ => .bad)
      | .Subscript (.Name o po) i _, e => if isSlice i || isLc e then .bad else .setix (cE n cc (.Name o po)) (cE n cc i) (cE n cc e)
      | _, _ => .bad)
    | .AugAssign (.Name x _) op e _ => if cc.see x && cc.put x then (match ixOf x cc.N with
        | some i => .aug i op (cE n cc e)
        | none => .bad) else .bad
    | .AugAssign (.Subscript (.Name o po) i _) op e _ => if isSlice i then .bad else .augix (cE n cc (.Name o po)) (cE n cc i) op (cE n cc e)
    | .If t a b _ => .ifS (cC n cc t) (mapS (cS n cc) a) (mapS (cS n cc) b)
    | .For g it b [] _ => if isSet it || cc.hot then .bad else .forS (cG n cc g) (cI n cc g it) (mapS (cS n cc) b)
    | .Raise (some (.Call (.Name x _) (a :: as) [] _)) none _ => if cc.hot || !cc.gl x || !noStars (a :: as) then .bad else (match cc.cons2.lookup x with
      | some (c, m) => .rse c m (mapE (cE n cc) (a :: as))
      | none => .bad)
    | .Try body [.ExceptHandler (some (.Name x _)) (some y) (b :: su) _] [] [] _ => if cc.hot || !cc.gl x || !decide (cc.kind y = some .local) then .bad else (match ixOf y cc.N, cc.isx.lookup x with
      | some i, some tab => .tryA i tab (mapS (cS n cc) body) (mapS (cS n cc.heat) (b :: su))
      | _, _ => .bad)
    | .While t b [] _ => .whl (cC n cc t) (mapS (cS n cc) b)
    | _ => .bad
end VL
set_option maxHeartbeats 4000000
/-! VLe: the text's rules read as the language: expressions, tests, what a loop walks. -/
namespace VL
open PySem PySem.Spec PyProof.Rows L2

/-- what is wished of an exception, what is known of the handled one -/
structure WP where
  w : WX
  ok : SG → Prop
def WP.no (W : WP) : WP := ⟨fun _ _ _ _ => False, W.ok⟩
def Cold : SG → Prop := fun S => S.x = none
/-- the handled exception's object, class, dict -/
def HotA (C : CT) (a : Addr) (cls : Value) (d : Option Addr) : SG → Prop := fun S => ∃ c dx, S.x = some (a, c, dx) ∧ cls = .ref (C.cls c) ∧ d = some dx
/-- p's object is the handled exception -/
def HotP (C : CT) (p : Addr × Obj) : SG → Prop := fun S => ∃ c dx, S.x = some (p.1, c, dx) ∧ L2N.Zn (.ref (C.cls c)) (some dx) p.2 ∧ ∃ vs, p.2.data = .fields vs
/-- an exception's own dict and what it holds -/
def ExcAt (C : CT) (S : SG) (F H : Hp) (x : Exc) (cls : Value) (dx : Option Addr) : Prop :=
  cls = .ref (C.cls x.cls) ∧ ∃ d fl vs, dx = some d ∧ F d = some (.xd fl) ∧ FldsOf C x.cls fl vs ∧ Reps C S F x.fs vs
/-- what E takes is what W wishes -/
def XOK (C : CT) (S : SG) (F0 H0 : Hp) (W : WP) (E : VL.XK) : Prop := W.ok S ∧ ∀ x ρ F H σ cls dx, OK C S F0 H0 F H σ ρ → ExcAt C S F H x cls dx → E x ρ → W.w cls dx σ H
def Cont (C : CT) (S : SG) (F0 H0 : Hp) (σ : L2.St) (ρ : En) (F H : Hp) (K : EK) (Q : VK) : Prop :=
  ∀ r ρ' v F' H', OK C S F0 H0 F' H' σ ρ' → Tr S ρ ρ' σ F H F' H' → RRep C S H0 F' H' σ ρ' r v → RFresh F' ρ' r v → K r ρ' → Q v H'
/-- the reading of an expression -/
def tE (C : CT) (Γ : Nat → VSp) (W : WP) (e : VE) : TE := fun σ H Q => ∃ (S : SG) (F0 H0 F : Hp) (ρ : En) (K : EK) (E : VL.XK), OK C S F0 H0 F H σ ρ ∧ wE Γ e ρ K E ∧ XOK C S F0 H0 W E ∧ Cont C S F0 H0 σ ρ F H K Q
def tCo (C : CT) (Γ : Nat → VSp) (W : WP) (t : VC) : TT := fun σ H Q => ∃ (S : SG) (F0 H0 F : Hp) (ρ : En) (K : Bool → En → Prop) (E : VL.XK), OK C S F0 H0 F H σ ρ ∧ wC Γ t ρ K E ∧ XOK C S F0 H0 W E ∧
  ∀ b ρ' F' H', OK C S F0 H0 F' H' σ ρ' → Tr S ρ ρ' σ F H F' H' → K b ρ' → Q b H'
def tEs (C : CT) (Γ : Nat → VSp) (W : WP) (es : VEs) : TA := fun σ H Q => ∃ (S : SG) (F0 H0 F : Hp) (ρ : En) (K : List R → En → Prop) (E : VL.XK), OK C S F0 H0 F H σ ρ ∧ wEs Γ es ρ K E ∧ XOK C S F0 H0 W E ∧
  ∀ rs ρ' vs F' H', OK C S F0 H0 F' H' σ ρ' → Tr S ρ ρ' σ F H F' H' → RReps C S H0 F' H' σ ρ' rs vs → rs.length = es.len → K rs ρ' → Q vs H'
def tO (C : CT) (Γ : Nat → VSp) (W : WP) (e : VO) : TO := fun σ H Q => ∃ (S : SG) (F0 H0 F : Hp) (ρ : En) (K : Option Int → En → Prop) (E : VL.XK), OK C S F0 H0 F H σ ρ ∧ wO Γ e ρ K E ∧ XOK C S F0 H0 W E ∧
  ∀ o ρ' F' H', OK C S F0 H0 F' H' σ ρ' → Tr S ρ ρ' σ F H F' H' → K o ρ' → Q o H'

/-- a def's promise over the heap -/
structure Ext (S : SG) (F H F' H' : Hp) : Prop where
  f : Sub F F'
  sub : Sub F' H'
  fr : ∀ a o, a ≠ S.p → H a = some o → H' a = some o
  fn : ∀ a o, F' a = some o → F a = some o ∨ H a = none ∨ ∃ ts, o = .tup ts
  sto : Sto S F' H'
/-- what a def hands back -/
def Res (C : CT) (S : SG) (H F' H' : Hp) (o : Bool) (d : D) (v : V) : Prop :=
  if o = true then ∃ a, v = .ref a ∧ Own C S H F' H' d a else Rep C S F' d v
def lift (C : CT) (P : SG → Prop) (s : VSp) : Sp := fun vs H Q E => ∃ (S : SG) (F : Hp) (x : s.α), P S ∧ Sub F H ∧ Sto S F H ∧ Reps C S F (s.arg x) vs ∧ s.pre x ∧
  (∀ o d v F' H', s.post x o d → Ext S F H F' H' → Res C S H F' H' o d v → Q v H') ∧
  ∀ e cls dx F' H', s.exc x e → Ext S F H F' H' → ExcAt C S F' H' e cls dx → E cls dx H'
/-- a def called while an exception is handled -/
structure FnX (P : Program) (w : World) (K : PySem.W.Frag) (mg : Str → Option Value) (base : Heap) (CX : CXT) (k : Nat) (f : Addr) (fd : FuncData) (ps : List Str) (sp : Addr × Obj → Sp) : Prop where
  len : ∀ p vs H Q E, sp p vs H Q E → vs.length = ps.length
  run : ∀ (A : Around) (outer : List Env) (s : Shared) (H : Hp) (args : Args) (us : List Value) (vs : List V) (Q : VK) (E : L2.XK) (p : Addr × Obj), L2H.RoomH k A → L2H.Hot1 A p → L2H.PinOk outer H s p → Env0 P w K mg base A outer s H → BindsTo s fd args (ps.zip us) → Vals vs us → sp p vs H Q E →
    codeAny (model P w) A (.call (.ref f) args) (CR CX outer P w H s Q E) s
def FnC (C : CT) (Γ : Nat → VSp) (X : Cx) (k lv : Nat) (f : Addr) (fd : FuncData) (ps : List Str) : Prop := FnOk X.prog X.w X.K X.mg X.base (L2N.CX X.prog X.w) lv f fd ps (lift C Cold (Γ k)) ∧ Room lv X.A
def FnW (C : CT) (Γ : Nat → VSp) (X : Cx) (k lv : Nat) (f : Addr) (fd : FuncData) (ps : List Str) : Prop := FnX X.prog X.w X.K X.mg X.base (L2N.CX X.prog X.w) lv f fd ps (fun p => lift C (HotP C p) (Γ k)) ∧ L2H.RoomH lv X.A
def FnAt (C : CT) (Γ : Nat → VSp) (X : Cx) (hot : Bool) (x : Str) (k : Nat) : Prop := ∃ lv f fd ps, (hot = false → FnC C Γ X k lv f fd ps) ∧ (hot = true → FnW C Γ X k lv f fd ps) ∧ X.mg x = some (.ref f) ∧ PySem.W.keepIn X.K (.ref f) = true ∧ Binds X.K fd ps []
def ConAt (C : CT) (X : Cx) (x : Str) (d : D) : Prop := ∃ v u, X.mg x = some u ∧ RelV v u ∧ ∀ S F, Rep C S F d v
/-- what a class's name means, and how isinstance and except answer of the own exceptions -/
def IsAt (C : CT) (X : Cx) (t : Str) (tab : List (Nat × Bool)) : Prop := ∃ (v : V) (cv : Value), (∀ u, RelV v u ↔ u = cv) ∧ (X.mg t = some cv ∨ (X.mg t = none ∧ bootBuiltins t = some cv ∧ t ≠ ("__name__" : Str))) ∧
  ∀ c b, tab.lookup c = some b → ExcC X.K (C.cls c) ∧ PySem.W.kitOne X.K (.ref (C.cls c)) cv = some b ∧ PySem.W.exmOne X.K (.ref (C.cls c)) cv = some b
/-- a field of an own object -/
def FldO (C : CT) (K : PySem.W.Frag) (f : Str) (c i : Nat) : Prop := (∀ vs : List V, vs.length = (C.fld c).length → ((C.fld c).zip vs).lookup f = vs[i]?) ∧ Cls K (C.cls c) ∧ NoAttr K (C.cls c) f
/-- a method of an own class -/
def MtdAt (C : CT) (Γ : Nat → VSp) (X : Cx) (m : Str) (c k : Nat) : Prop := ∃ lv f fd ps, FnC C Γ X k lv f fd ps ∧ Meth X.K (C.cls c) m f ∧ Cls X.K (C.cls c) ∧ Binds X.K fd ps [] ∧ (∀ vs : List V, ((C.fld c).zip vs).lookup m = none) ∧ PySem.W.selfFirst X.K (C.cls c) = true ∧ PySem.W.notFirst X.K (C.cls c) (.ref (C.cls c)) = true ∧ PySem.W.fnIn X.K f = true ∧ Room (lv + 4) X.A
/-- the promise of an __init__: the fields are filled -/
def liftO (C : CT) (c : Nat) (s : VSp) : Sp := fun vs H Q E => ∃ (S : SG) (F : Hp) (x : s.α) (a dx : Addr) (ws : List V), vs = .ref a :: ws ∧ S.x = none ∧ H a = some (.ins (C.cls c) dx []) ∧ Sub F (del H a) ∧ Sto S F (del H a) ∧ Reps C S F (s.arg x) ws ∧ s.pre x ∧
  (∀ fs us F' H', s.post x false (.obj c fs) → Ext S F (del H a) F' (del H' a) → H' a = some (.ins (C.cls c) dx ((C.fld c).zip us)) → us.length = (C.fld c).length → Reps C S F' fs us → Q .non H')
/-- an own class that is made by a call -/
def MkAt (C : CT) (Γ : Nat → VSp) (X : Cx) (x : Str) (k : Nat) : Prop := ∃ c lv f fd ps, FnOk X.prog X.w X.K X.mg X.base (L2N.CX X.prog X.w) lv f fd ps (liftO C c (Γ k)) ∧ Room (lv + 1) X.A ∧ Mk X.K (C.cls c) f ∧ X.mg x = some (.ref (C.cls c)) ∧ Binds X.K fd ps [] ∧ ∀ x o d, (Γ k).post x o d → o = false ∧ ∃ fs, d = .obj c fs
/-- a def whose promise may speak of the heap's size at the call -/
structure FnS (P : Program) (w : World) (K : PySem.W.Frag) (mg : Str → Option Value) (base : Heap) (CX : CXT) (k : Nat) (f : Addr) (fd : FuncData) (ps : List Str) (sp : Nat → Sp) : Prop where
  len : ∀ n vs H Q E, sp n vs H Q E → vs.length = ps.length
  run : ∀ (A : Around) (outer : List Env) (s : Shared) (H : Hp) (args : Args) (us : List Value) (vs : List V) (Q : VK) (E : L2.XK), Room k A → Env0 P w K mg base A outer s H → BindsTo s fd args (ps.zip us) → Vals vs us → sp s.heap.objs.size vs H Q E →
    codeAny (model P w) A (.call (.ref f) args) (CR CX outer P w H s Q E) s
/-- __len__ of an own class: the length of the list in a field -/
def spLen (C : CT) (K : PySem.W.Frag) (c i : Nat) : Sp := fun vs H Q _ => ∃ (a dx l : Addr) (us zs : List V), vs = [.ref a] ∧ H a = some (.ins (C.cls c) dx ((C.fld c).zip us)) ∧ us.length = (C.fld c).length ∧ us[i]? = some (.ref l) ∧ SqL K H l zs ∧ Q (.int (zs.length : Nat)) H
/-- __iter__ of an own class: an iterator of the list in a field -/
def spIter (C : CT) (K : PySem.W.Frag) (c i : Nat) : Nat → Sp := fun n vs H Q _ => ∃ (a dx l : Addr) (us zs : List V), vs = [.ref a] ∧ H a = some (.ins (C.cls c) dx ((C.fld c).zip us)) ∧ us.length = (C.fld c).length ∧ us[i]? = some (.ref l) ∧ SqL K H l zs ∧ ∀ it, H it = none → n ≤ it → Q (.ref it) (upd H it (ItO l it 0))
def IterAt (C : CT) (Γ : Nat → VSp) (X : Cx) (c i : Nat) : Prop := ∃ lv f fd ps, FnS X.prog X.w X.K X.mg X.base (L2N.CX X.prog X.w) lv f fd ps (spIter C X.K c i) ∧ Room (lv + 2) X.A ∧ PySem.W.findIn X.K (.ref (C.cls c)) "__iter__" = some (some (.ref f)) ∧ PySem.W.isFn X.K (.ref f) = true ∧ Binds X.K fd ps [] ∧
  PySem.W.findIn X.K (.ref (C.cls c)) "__length_hint__" = some none ∧ (PySem.W.findIn X.K (.ref (C.cls c)) "__len__" = some none ∨ ∃ g gd qs lw, FnOk X.prog X.w X.K X.mg X.base (L2N.CX X.prog X.w) lw g gd qs (spLen C X.K c i) ∧ Room (lw + 4) X.A ∧ PySem.W.findIn X.K (.ref (C.cls c)) "__len__" = some (some (.ref g)) ∧ PySem.W.isFn X.K (.ref g) = true ∧ Binds X.K gd qs [])
structure Ctx (C : CT) (Γ : Nat → VSp) (X : Cx) (cc : CC) (W : WP) : Prop where
  hN : X.N = cc.N
  sc : X.env.scope = cc.sc
  fn : X.fn = cc.fn
  nd : X.N.Nodup
  K : X.K = C.K
  cold : cc.hot = false → X.calm = true ∧ W.ok = Cold
  hot : cc.hot = true → ∃ p cls d, p ∈ X.pn ∧ L2N.Zn cls d p.2 ∧ (∃ vs, p.2.data = .fields vs) ∧ X.A.handled = some (.ref p.1) ∧ W.ok = HotA C p.1 cls d
  fl : ∀ f t c i, cc.flds.lookup f = some t → t.lookup c = some i → (C.fld c)[i]? = some f ∧ XfC X.K (C.cls c) ∧ PySem.W.findIn X.K (.ref (C.cls c)) f = some none
  ix : ∀ t tab, cc.isx.lookup t = some tab → IsAt C X t tab
  un : X.A.units + 64 < cLine
  tk : L2N.Takes X W.w
  po : PassesOwn (model X.prog X.w) X.A X.env X.xe
  fns : ∀ x k, cc.fns.lookup x = some k → FnAt C Γ X cc.hot x k
  cons : ∀ x d, cc.cons.lookup x = some d → ConAt C X x d
  blt : ∀ x ∈ cc.blt, X.mg x = none
  mks : cc.hot = false → ∀ x k, cc.mks.lookup x = some k → MkAt C Γ X x k
  ofl : ∀ f c i, cc.ofl.lookup f = some (c, i) → FldO C X.K f c i
  mtd : cc.hot = false → ∀ m c k, cc.mtd.lookup m = some (c, k) → MtdAt C Γ X m c k
  itf : cc.hot = false → ∀ c i, cc.itf = some (c, i) → IterAt C Γ X c i

section
variable {C : CT} {Γ : Nat → VSp} {X : Cx} {cc : CC} {W : WP}
theorem rrep_bl {S : SG} {H0 F H : Hp} {σ : L2.St} {ρ : En} {b : Bool} : RRep C S H0 F H σ ρ (.val (.bl b)) (.bl b) := rep_bl (C := C) (S := S) (F := F)
theorem pe_imp {e : Expr} {t t' : TE} (h : PE X e t) (i : ∀ σ H Q, t' σ H Q → t σ H Q) : PE X e t' := ⟨fun pins s σ H Q I q => h.run pins s σ H Q I (i σ H Q q)⟩
theorem pt_imp {e : Expr} {t t' : TT} (h : PT X e t) (i : ∀ σ H Q, t' σ H Q → t σ H Q) : PT X e t' := ⟨fun pins s σ H Q I q => h.run pins s σ H Q I (i σ H Q q)⟩
theorem pw_imp {e : Expr} {t t' : TT} (h : PW X e t) (i : ∀ σ H Q, t' σ H Q → t σ H Q) : PW X e t' := ⟨fun wh pins s σ H Q I q => h.run wh pins s σ H Q I (i σ H Q q)⟩
theorem pa_imp {es : List Expr} {t t' : TA} (h : PA X es t) (i : ∀ σ H Q, t' σ H Q → t σ H Q) : PA X es t' := ⟨fun pos pins s σ H Q I q => h.run pos pins s σ H Q I (i σ H Q q)⟩
theorem po_imp {e : Option Expr} {t t' : TO} (h : PO X e t) (i : ∀ σ H Q, t' σ H Q → t σ H Q) : PO X e t' := ⟨fun pins s σ H Q I q => h.run pins s σ H Q I (i σ H Q q)⟩
theorem pe_bad {e : Expr} : PE X e (tE C Γ W .bad) := ⟨fun pins s σ H Q I q => by
  obtain ⟨_, _, _, _, _, _, _, _, z, _⟩ := q
  unfold wE at z
  exact z.elim⟩
theorem pt_bad {e : Expr} : PT X e (tCo C Γ W (.tv .bad)) := ⟨fun pins s σ H Q I q => by
  obtain ⟨_, _, _, _, _, _, _, _, z, _⟩ := q
  unfold wC wE at z
  exact z.elim⟩

/-! ### what the text's form gives -/
theorem star_cons {e : Expr} {es : List Expr} {env : PySem.Env} (h : isStar e = false) : starEach (e :: es) env = (false, eval e env) :: starEach es env := by
  cases e <;> first | rfl | cases h
theorem star_plain {env : PySem.Env} : ∀ {es : List Expr}, noStars es = true → (starEach es env).any (·.1) = false
  | [], _ => rfl
  | e :: es, h => by
    unfold noStars at h
    rw [List.all_cons, Bool.and_eq_true] at h
    rw [star_cons (by simpa using h.1), List.any_cons, star_plain (es := es) h.2] <;> rfl
theorem back_any {pos : Pos} (l : List (Bool × Sem Value)) : (backTo pos l).any (·.1) = l.any (·.1) := by
  unfold backTo
  rw [List.any_map]
  congr 1
theorem slice_plain {b : Expr} (h : isSlice b = false) : PlainIx b := fun o i => by
  cases b <;> first | rfl | cases h
theorem set_plain {e : Expr} {env : PySem.Env} (h : isSet e = false) : ∀ x, foldedSetIterable e env x = pure x := fun x => by
  cases e <;> first | rfl | cases h
theorem okN_ok {x : Str} (h : okN x = true) : (x == ("__debug__" : Str)) = false ∧ (x == ("__classdict__" : Str)) = false := by
  unfold okN at h
  rw [Bool.and_eq_true] at h
  exact ⟨of_decide_eq_true h.1, of_decide_eq_true h.2⟩
theorem Ctx.vis (cx : Ctx C Γ X cc W) {x : Str} (h : cc.see x = true) : Vis X.env.scope x := by
  unfold CC.see CC.kind at h
  rw [Bool.and_eq_true] at h
  rw [cx.sc]
  have h2 := h.2
  split at h2
  · exact .inl ‹_›
  · exact .inr (.inl ‹_›)
  · exact .inr (.inr ‹_›)
  · cases h2
theorem Ctx.slot (cx : Ctx C Γ X cc W) {x : Str} {i : Nat} (h : ixOf x cc.N = some i) : X.N[i]? = some x := by
  rw [cx.hN]
  exact ixOf_ok h
theorem Ctx.glob (cx : Ctx C Γ X cc W) {x : Str} (h : cc.gl x = true) : Gl X x := by
  unfold CC.gl CC.kind at h
  rw [Bool.and_eq_true] at h
  have h2 := h.2
  split at h2
  · show X.env.kindOf x = some .globalImplicit
    unfold Env.kindOf
    rw [cx.sc]
    assumption
  · cases h2
theorem CC.gl_okN {x : Str} (h : cc.gl x = true) : okN x = true := by
  unfold CC.gl at h
  rw [Bool.and_eq_true] at h
  exact h.1
theorem CC.free_ok {x : Str} (h : cc.free x = true) : cc.gl x = true ∧ x ∈ cc.blt ∧ x ≠ ("__name__" : Str) := by
  unfold CC.free at h
  rw [Bool.and_eq_true, Bool.and_eq_true] at h
  exact ⟨h.1.1, of_decide_eq_true h.1.2, of_decide_eq_true h.2⟩

/-! ### expressions -/
theorem s_var (cx : Ctx C Γ X cc W) {x : Str} {i : Nat} {pos : Pos} (h : cc.see x = true) (hi : ixOf x cc.N = some i) : PE X (.Name x pos) (tE C Γ W (.var i)) := by
  have ho : okN x = true := by
    unfold CC.see at h
    rw [Bool.and_eq_true] at h
    exact h.1
  refine pe_imp (pe_var (cx.slot hi) (cx.vis h) (okN_ok ho).1 (okN_ok ho).2) ?_
  rintro σ H Q ⟨S, F0, H0, F, ρ, K, E, O, hw, hx, g⟩
  unfold wE look at hw
  split at hw
  · rename_i d hd
    obtain ⟨v, e, r⟩ := O.val i d hd
    exact ⟨v, e, g (.val d) ρ v F H O Tr.refl r trivial hw⟩
  · rename_i d hd
    obtain ⟨a, e, r⟩ := O.own i d hd
    exact ⟨.ref a, e, g (.var i d) ρ (.ref a) F H O Tr.refl e hd hw⟩
  · exact hw.elim
theorem s_cst {e : Expr} {d : D} {v : V} (h : PE X e (L2.tC v)) (r : ∀ S F, Rep C S F d v) : PE X e (tE C Γ W (.cst d)) := by
  refine pe_imp h ?_
  rintro σ H Q ⟨S, F0, H0, F, ρ, K, E, O, hw, hx, g⟩
  unfold wE at hw
  exact g (.val d) ρ v F H O Tr.refl (r S F) trivial hw
theorem s_con (cx : Ctx C Γ X cc W) {x : Str} {d : D} {pos : Pos} (h : cc.gl x = true) (hd : cc.cons.lookup x = some d) : PE X (.Name x pos) (tE C Γ W (.cst d)) := by
  obtain ⟨v, u, hm, r, k⟩ := cx.cons x d hd
  exact s_cst (pe_glob (cx.glob h) hm r (okN_ok (CC.gl_okN h)).1) k
theorem s_bin (cx : Ctx C Γ X cc W) {a b : Expr} {op : Operator} {pos : Pos} {va vb : VE} (ha : PE X a (tE C Γ W va)) (hb : PE X b (tE C Γ W vb)) : PE X (.BinOp a op b pos) (tE C Γ W (.bin op va vb)) := by
  refine pe_imp (pe_op (op_bin cx.K op) ha hb) ?_
  rintro σ H Q ⟨S, F0, H0, F, ρ, K, E, O, hw, hx, g⟩
  unfold wE at hw
  refine ⟨S, F0, H0, F, ρ, _, E, O, hw, hx, fun r1 ρ1 v1 F1 H1 O1 t1 q1 f1 hw1 => ⟨S, F0, H0, F1, ρ1, _, E, O1, hw1, hx, fun r2 ρ2 v2 F2 H2 O2 t2 q2 f2 hk => ?_⟩⟩
  obtain ⟨w1, hk⟩ := view_of O2 (q1.tr t2) hk
  obtain ⟨w2, _⟩ := view_of O2 q2 f2.lv
  exact ⟨S, F0, H0, F2, σ, ρ2, _, _, _, O2, w1, w2, hk, fun r v F' H' O' t' q' f' hk' => g r ρ2 v F' H' O' ((t1.trans t2).trans t') q' f' hk'⟩
theorem vNeg_mono {d : D} {K K' : D → Prop} (h : ∀ b, K b → K' b) (t : vNeg d K) : vNeg d K' := by
  unfold vNeg at t ⊢
  split at t
  · exact h _ t
  · exact t
theorem s_neg (cx : Ctx C Γ X cc W) {a : Expr} {pos : Pos} {va : VE} (ha : PE X a (tE C Γ W va)) : PE X (.UnaryOp .USub a pos) (tE C Γ W (.neg va)) := by
  refine pe_imp (pe_un (un_negV (C := C)) ha) ?_
  rintro σ H Q ⟨S, F0, H0, F, ρ, K, E, O, hw, hx, g⟩
  unfold wE at hw
  refine ⟨S, F0, H0, F, ρ, _, E, O, hw, hx, fun r1 ρ1 v1 F1 H1 O1 t1 q1 f1 hw1 => ?_⟩
  obtain ⟨w1, _⟩ := view_of O1 q1 f1.lv
  exact ⟨S, F1, r1.d, w1, vNeg_mono (fun d hk v r => g (.val d) ρ1 v F1 H1 O1 t1 r trivial hk) hw1⟩
theorem truth_mono {d : D} {K K' : Bool → Prop} (h : ∀ b, K b → K' b) (t : truth d K) : truth d K' := by
  unfold truth at t ⊢
  split at t <;> first | exact h _ t | exact ⟨t.1, h _ t.2⟩ | exact t
theorem vCmp_mono {op : CmpOp} {x y : D} {K K' : Bool → Prop} (h : ∀ b, K b → K' b) (t : vCmp op x y K) : vCmp op x y K' := by
  have e1 : ∀ {K K' : Bool → Prop}, (∀ b, K b → K' b) → vEq x y K → vEq x y K' := fun h t => by
    unfold vEq at t ⊢
    split at t <;> first | exact h _ t | (obtain ⟨p, q, a, b, c, d, t⟩ := t; exact ⟨p, q, a, b, c, d, h _ t⟩)
  have e2 : ∀ {K K' : Bool → Prop}, (∀ b, K b → K' b) → vIn x y K → vIn x y K' := fun h t => by
    unfold vIn at t ⊢
    split at t <;> first | exact h _ t | exact ⟨t.1, t.2.1, h _ t.2.2⟩ | exact ⟨t.choose, t.choose_spec.1, h _ t.choose_spec.2⟩ | exact t
  unfold vCmp at t ⊢
  split at t
  · exact e1 h t
  · exact e1 (fun b => h _) t
  · split at t <;> first | exact h _ t | exact t
  · split at t <;> first | exact h _ t | exact t
  · split at t <;> first | exact h _ t | exact t
  · split at t <;> first | exact h _ t | exact t
  · split at t
    · split at t <;> exact h _ t
    · exact t
  · split at t
    · split at t <;> exact h _ t
    · exact t
  · exact e2 h t
  · exact e2 (fun b => h _) t
theorem s_notE (cx : Ctx C Γ X cc W) {a : Expr} {pos : Pos} {va : VE} (ha : PE X a (tE C Γ W va)) : PE X (.UnaryOp .Not a pos) (tE C Γ W (.notE va)) := by
  refine pe_imp (pe_notT ha) ?_
  rintro σ H Q ⟨S, F0, H0, F, ρ, K, E, O, hw, hx, g⟩
  unfold wE at hw
  refine ⟨S, F0, H0, F, ρ, _, E, O, hw, hx, fun r1 ρ1 v1 F1 H1 O1 t1 q1 f1 hw1 => ?_⟩
  obtain ⟨w1, _⟩ := view_of O1 q1 f1.lv
  exact tru_of cx.K O1.sub (Q := fun b H => Q (.bl (!b)) H) w1 (truth_mono (fun b hb => g _ ρ1 _ F1 H1 O1 t1 rrep_bl trivial hb) hw1)
theorem s_cmp (cx : Ctx C Γ X cc W) {a b : Expr} {op : CmpOp} {pos : Pos} {va vb : VE} (hm : behindInMarks op b = false) (ha : PE X a (tE C Γ W va)) (hb : PE X b (tE C Γ W vb)) : PE X (.Compare a [op] [b] pos) (tE C Γ W (.cmp op va vb)) := by
  refine pe_imp (pe_cmpR (op_cmpV cx.K cx.un op) ha hb hm) ?_
  rintro σ H Q ⟨S, F0, H0, F, ρ, K, E, O, hw, hx, g⟩
  unfold wE at hw
  refine ⟨S, F0, H0, F, ρ, _, E, O, hw, hx, fun r1 ρ1 v1 F1 H1 O1 t1 q1 f1 hw1 => ⟨S, F0, H0, F1, ρ1, _, E, O1, hw1, hx, fun r2 ρ2 v2 F2 H2 O2 t2 q2 f2 hk => ?_⟩⟩
  obtain ⟨w1, hk⟩ := view_of O2 (q1.tr t2) hk
  obtain ⟨w2, _⟩ := view_of O2 q2 f2.lv
  exact ⟨S, F2, _, _, O2.sub, w1, w2, vCmp_mono (fun b hb => g _ ρ2 _ F2 H2 O2 (t1.trans t2) rrep_bl trivial hb) hk⟩
theorem s_cmpT (cx : Ctx C Γ X cc W) {a b : Expr} {op : CmpOp} {pos : Pos} {va vb : VE} (hm : behindInMarks op b = false) (ha : PE X a (tE C Γ W va)) (hb : PE X b (tE C Γ W vb)) : PT X (.Compare a [op] [b] pos) (tCo C Γ W (.tv (.cmp op va vb))) := by
  refine pt_imp (pt_cmpR (op_cmpV cx.K cx.un op) ha hb hm) ?_
  rintro σ H Q ⟨S, F0, H0, F, ρ, K, E, O, hw, hx, g⟩
  unfold wC wE at hw
  refine ⟨S, F0, H0, F, ρ, _, E, O, hw, hx, fun r1 ρ1 v1 F1 H1 O1 t1 q1 f1 hw1 => ⟨S, F0, H0, F1, ρ1, _, E, O1, hw1, hx, fun r2 ρ2 v2 F2 H2 O2 t2 q2 f2 hk => ?_⟩⟩
  obtain ⟨w1, hk⟩ := view_of O2 (q1.tr t2) hk
  obtain ⟨w2, _⟩ := view_of O2 q2 f2.lv
  exact ⟨S, F2, _, _, O2.sub, w1, w2, vCmp_mono (fun b hb => ⟨b, rfl, g b ρ2 F2 H2 O2 (t1.trans t2) hb⟩) hk⟩
theorem chain_core {C : CT} {Γ : Nat → VSp} {W : WP} {op op' : CmpOp} {va vb vc : VE} {σ : L2.St} {H : Hp} {S : SG} {F0 H0 F : Hp} {ρ : En} {K : Bool → En → Prop} {E : VL.XK} {Q : VK} (O : OK C S F0 H0 F H σ ρ) (hx : XOK C S F0 H0 W E)
    (hw : wE Γ va ρ (fun x ρ1 => wE Γ vb ρ1 (fun y ρ2 => x.lv ρ2 (vCmp op x.d y.d fun k => (k = true → wE Γ vc ρ2 (fun z ρ3 => y.lv ρ3 (vCmp op' y.d z.d fun k' => K k' ρ3)) E) ∧ (k = false → K false ρ2))) E) E)
    (g : ∀ b ρ' F' H', OK C S F0 H0 F' H' σ ρ' → Tr S ρ ρ' σ F H F' H' → K b ρ' → Q (.bl b) H') : tChain (rCmp C op) (rCmp C op') (tE C Γ W va) (tE C Γ W vb) (tE C Γ W vc) σ H Q := by
  refine ⟨S, F0, H0, F, ρ, _, E, O, hw, hx, fun r1 ρ1 v1 F1 H1 O1 t1 q1 f1 hw1 => ⟨S, F0, H0, F1, ρ1, _, E, O1, hw1, hx, fun r2 ρ2 v2 F2 H2 O2 t2 q2 f2 hk => ?_⟩⟩
  obtain ⟨w1, hk⟩ := view_of O2 (q1.tr t2) hk
  obtain ⟨w2, _⟩ := view_of O2 q2 f2.lv
  refine ⟨S, F2, _, _, O2.sub, w1, w2, vCmp_mono (fun b hb => ⟨b, rfl, ?_⟩) hk⟩
  cases b with
  | false =>
    rw [if_neg Bool.false_ne_true]
    exact g false ρ2 F2 H2 O2 (t1.trans t2) (hb.2 rfl)
  | true =>
    rw [if_pos rfl]
    refine ⟨S, F0, H0, F2, ρ2, _, E, O2, hb.1 rfl, hx, fun r3 ρ3 v3 F3 H3 O3 t3 q3 f3 hk3 => ?_⟩
    obtain ⟨w2', hk3⟩ := view_of O3 (q2.tr t3) hk3
    obtain ⟨w3, _⟩ := view_of O3 q3 f3.lv
    exact ⟨S, F3, _, _, O3.sub, w2', w3, vCmp_mono (fun b hb => g b ρ3 F3 H3 O3 ((t1.trans t2).trans t3) hb) hk3⟩
theorem marks2 {op op' : CmpOp} {b c : Expr} (h1 : behindInMarks op b = false) (h2 : behindInMarks op' c = false) : lastMarks [op, op'] [b, c] = false := h2
theorem s_chn (cx : Ctx C Γ X cc W) {a b c : Expr} {op op' : CmpOp} {pos : Pos} {va vb vc : VE} (h1 : behindInMarks op b = false) (h2 : behindInMarks op' c = false) (ha : PE X a (tE C Γ W va)) (hb : PE X b (tE C Γ W vb)) (hc : PE X c (tE C Γ W vc)) :
    PE X (.Compare a [op, op'] [b, c] pos) (tE C Γ W (.chn op op' va vb vc)) := by
  refine pe_imp (pe_chain (op_cmpV cx.K cx.un op) (op_cmpV cx.K cx.un op') ha hb hc (marks2 h1 h2)) ?_
  rintro σ H Q ⟨S, F0, H0, F, ρ, K, E, O, hw, hx, g⟩
  unfold wE at hw
  exact chain_core (K := fun k ρ => K (.val (.bl k)) ρ) O hx hw fun b ρ' F' H' O' t' hk => g _ ρ' _ F' H' O' t' rrep_bl trivial hk
theorem s_chnT (cx : Ctx C Γ X cc W) {a b c : Expr} {op op' : CmpOp} {pos : Pos} {va vb vc : VE} (h1 : behindInMarks op b = false) (h2 : behindInMarks op' c = false) (ha : PE X a (tE C Γ W va)) (hb : PE X b (tE C Γ W vb)) (hc : PE X c (tE C Γ W vc)) :
    PT X (.Compare a [op, op'] [b, c] pos) (tCo C Γ W (.tv (.chn op op' va vb vc))) := by
  refine pt_imp (pt_chain (op_cmpV cx.K cx.un op) (op_cmpV cx.K cx.un op') ha hb hc (marks2 h1 h2)) ?_
  rintro σ H Q ⟨S, F0, H0, F, ρ, K, E, O, hw, hx, g⟩
  unfold wC wE at hw
  exact chain_core (K := K) O hx hw fun b ρ' F' H' O' t' hk => ⟨b, rfl, g b ρ' F' H' O' t' hk⟩
theorem s_tv (cx : Ctx C Γ X cc W) {a : Expr} {va : VE} (ha : PE X a (tE C Γ W va)) (he : ∀ whole, isTrue a X.env whole = (do let v ← whole; standAt a.pos; holding [v] (truthy v))) : PT X a (tCo C Γ W (.tv va)) := by
  refine pt_imp (pt_truth ha he) ?_
  rintro σ H Q ⟨S, F0, H0, F, ρ, K, E, O, hw, hx, g⟩
  unfold wC at hw
  refine ⟨S, F0, H0, F, ρ, _, E, O, hw, hx, fun r1 ρ1 v1 F1 H1 O1 t1 q1 f1 hw1 => ?_⟩
  obtain ⟨w1, _⟩ := view_of O1 q1 f1.lv
  exact tru_of cx.K O1.sub w1 (truth_mono (fun b hb => g b ρ1 F1 H1 O1 t1 hb) hw1)
theorem s_tnot {a : Expr} {pos : Pos} {t : VC} (ha : PT X a (tCo C Γ W t)) : PT X (.UnaryOp .Not a pos) (tCo C Γ W (.tnot t)) := by
  refine pt_imp (pt_not ha) ?_
  rintro σ H Q ⟨S, F0, H0, F, ρ, K, E, O, hw, hx, g⟩
  unfold wC at hw
  exact ⟨S, F0, H0, F, ρ, _, E, O, hw, hx, fun b ρ' F' H' O' t' hk => g (!b) ρ' F' H' O' t' hk⟩
theorem s_tands {f : Expr → VC} (h : ∀ e, PT X e (tCo C Γ W (f e))) {pos : Pos} : ∀ es : List Expr, PW X (.BoolOp .And es pos) (tCo C Γ W (andC f es))
  | [] => ⟨fun wh pins s σ H Q I q => by
    obtain ⟨_, _, _, _, _, _, _, _, z, _⟩ := q
    unfold andC wC wE at z
    exact z.elim⟩
  | [a] => pw_and1 (h a)
  | a :: b :: r => by
    refine pw_imp (pw_and (h a) (s_tands h (b :: r))) ?_
    rintro σ H Q ⟨S, F0, H0, F, ρ, K, E, O, hw, hx, g⟩
    unfold andC wC at hw
    refine ⟨S, F0, H0, F, ρ, _, E, O, hw, hx, fun c ρ' F' H' O' t' hk => ?_⟩
    cases c with
    | true => rw [if_pos rfl]; exact ⟨S, F0, H0, F', ρ', _, E, O', hk.1 rfl, hx, fun b ρ2 F2 H2 O2 t2 hk2 => g b ρ2 F2 H2 O2 (t'.trans t2) hk2⟩
    | false => rw [if_neg Bool.false_ne_true]; exact g false ρ' F' H' O' t' (hk.2 rfl)
theorem s_tors {f : Expr → VC} (h : ∀ e, PT X e (tCo C Γ W (f e))) {pos : Pos} : ∀ es : List Expr, PW X (.BoolOp .Or es pos) (tCo C Γ W (orC f es))
  | [] => ⟨fun wh pins s σ H Q I q => by
    obtain ⟨_, _, _, _, _, _, _, _, z, _⟩ := q
    unfold orC wC wE at z
    exact z.elim⟩
  | [a] => pw_or1 (h a)
  | a :: b :: r => by
    refine pw_imp (pw_or (h a) (s_tors h (b :: r))) ?_
    rintro σ H Q ⟨S, F0, H0, F, ρ, K, E, O, hw, hx, g⟩
    unfold orC wC at hw
    refine ⟨S, F0, H0, F, ρ, _, E, O, hw, hx, fun c ρ' F' H' O' t' hk => ?_⟩
    cases c with
    | true => rw [if_pos rfl]; exact g true ρ' F' H' O' t' (hk.1 rfl)
    | false => rw [if_neg Bool.false_ne_true]; exact ⟨S, F0, H0, F', ρ', _, E, O', hk.2 rfl, hx, fun b ρ2 F2 H2 O2 t2 hk2 => g b ρ2 F2 H2 O2 (t'.trans t2) hk2⟩
theorem View.asBl {F H : Hp} {S : SG} {d : D} {v : V} {c : Bool} (e : d = .bl c) (h : View C S F H d v) : v = .bl c := by
  subst e
  exact h.bl
theorem s_ands {f : Expr → VE} (h : ∀ e, PE X e (tE C Γ W (f e))) {pos : Pos} : ∀ es : List Expr, PE X (.BoolOp .And es pos) (tE C Γ W (andV f es))
  | [] => pe_bad
  | [a] => pe_one (h a)
  | a :: b :: r => by
    refine pe_imp (pe_and (h a) (s_ands h (b :: r))) ?_
    rintro σ H Q ⟨S, F0, H0, F, ρ, K, E, O, hw, hx, g⟩
    unfold andV wE at hw
    refine ⟨S, F0, H0, F, ρ, _, E, O, hw, hx, fun r1 ρ1 v1 F1 H1 O1 t1 q1 f1 hw1 => ?_⟩
    obtain ⟨c, e, h1, h2⟩ := hw1
    obtain ⟨w1, _⟩ := view_of O1 q1 f1.lv
    refine ⟨c, w1.asBl e, ?_⟩
    cases c with
    | true => rw [if_pos rfl]; exact ⟨S, F0, H0, F1, ρ1, _, E, O1, h1 rfl, hx, fun r2 ρ2 v2 F2 H2 O2 t2 q2 f2 hk2 => g r2 ρ2 v2 F2 H2 O2 (t1.trans t2) q2 f2 hk2⟩
    | false => rw [if_neg Bool.false_ne_true]; exact g _ ρ1 _ F1 H1 O1 t1 rrep_bl trivial (h2 rfl)
theorem s_ors {f : Expr → VE} (h : ∀ e, PE X e (tE C Γ W (f e))) {pos : Pos} : ∀ es : List Expr, PE X (.BoolOp .Or es pos) (tE C Γ W (orV f es))
  | [] => pe_bad
  | [a] => pe_one (h a)
  | a :: b :: r => by
    refine pe_imp (pe_or (h a) (s_ors h (b :: r))) ?_
    rintro σ H Q ⟨S, F0, H0, F, ρ, K, E, O, hw, hx, g⟩
    unfold orV wE at hw
    refine ⟨S, F0, H0, F, ρ, _, E, O, hw, hx, fun r1 ρ1 v1 F1 H1 O1 t1 q1 f1 hw1 => ?_⟩
    obtain ⟨c, e, h1, h2⟩ := hw1
    obtain ⟨w1, _⟩ := view_of O1 q1 f1.lv
    refine ⟨c, w1.asBl e, ?_⟩
    cases c with
    | true => rw [if_pos rfl]; exact g _ ρ1 _ F1 H1 O1 t1 rrep_bl trivial (h1 rfl)
    | false => rw [if_neg Bool.false_ne_true]; exact ⟨S, F0, H0, F1, ρ1, _, E, O1, h2 rfl, hx, fun r2 ρ2 v2 F2 H2 O2 t2 q2 f2 hk2 => g r2 ρ2 v2 F2 H2 O2 (t1.trans t2) q2 f2 hk2⟩
theorem s_ife {t a b : Expr} {pos : Pos} {vt : VC} {va vb : VE} (ht : PT X t (tCo C Γ W vt)) (ha : PE X a (tE C Γ W va)) (hb : PE X b (tE C Γ W vb)) : PE X (.IfExp t a b pos) (tE C Γ W (.ife vt va vb)) := by
  refine pe_imp (pe_ifExp ht ha hb) ?_
  rintro σ H Q ⟨S, F0, H0, F, ρ, K, E, O, hw, hx, g⟩
  unfold wE at hw
  refine ⟨S, F0, H0, F, ρ, _, E, O, hw, hx, fun c ρ' F' H' O' t' hk => ?_⟩
  cases c with
  | true => rw [if_pos rfl]; exact ⟨S, F0, H0, F', ρ', _, E, O', hk.1 rfl, hx, fun r2 ρ2 v2 F2 H2 O2 t2 q2 f2 hk2 => g r2 ρ2 v2 F2 H2 O2 (t'.trans t2) q2 f2 hk2⟩
  | false => rw [if_neg Bool.false_ne_true]; exact ⟨S, F0, H0, F', ρ', _, E, O', hk.2 rfl, hx, fun r2 ρ2 v2 F2 H2 O2 t2 q2 f2 hk2 => g r2 ρ2 v2 F2 H2 O2 (t'.trans t2) q2 f2 hk2⟩
theorem s_args {f : Expr → VE} (h : ∀ e, PE X e (tE C Γ W (f e))) : ∀ {es : List Expr}, noStars es = true → PA X es (tEs C Γ W (mapE f es))
  | [], _ => by
    refine pa_imp pa_nil ?_
    rintro σ H Q ⟨S, F0, H0, F, ρ, K, E, O, hw, hx, g⟩
    unfold mapE wEs at hw
    exact g [] ρ [] F H O Tr.refl rfl rfl hw
  | e :: es, hs => by
    unfold noStars at hs
    rw [List.all_cons, Bool.and_eq_true] at hs
    refine pa_imp (pa_cons (h e) (s_args h (es := es) hs.2) (star_cons (by simpa using hs.1))) ?_
    rintro σ H Q ⟨S, F0, H0, F, ρ, K, E, O, hw, hx, g⟩
    unfold mapE wEs at hw
    exact ⟨S, F0, H0, F, ρ, _, E, O, hw, hx, fun r1 ρ1 v1 F1 H1 O1 t1 q1 f1 hw1 => ⟨S, F0, H0, F1, ρ1, _, E, O1, hw1, hx, fun rs ρ2 vs F2 H2 O2 t2 q2 l2 hk2 =>
      g (r1 :: rs) ρ2 (v1 :: vs) F2 H2 O2 (t1.trans t2) ⟨v1, vs, rfl, q1.tr t2, q2⟩ (by rw [List.length_cons, l2]; rfl) hk2⟩⟩
theorem rreps_len {σ : L2.St} {H0 F H : Hp} {S : SG} {ρ : En} : ∀ {rs : List R} {vs : List V}, RReps C S H0 F H σ ρ rs vs → vs.length = rs.length
  | [], _, h => by cases (show _ = [] from h); rfl
  | r :: rs, _, h => by
    obtain ⟨v, us, rfl, _, h2⟩ := h
    rw [List.length_cons, List.length_cons, rreps_len h2]
end
end VL
set_option maxHeartbeats 4000000
/-! VLf: displays, items, calls, methods, what is walked, comprehensions. -/
namespace VL
open PySem PySem.Spec PyProof.Rows L2
section
variable {C : CT} {Γ : Nat → VSp} {X : Cx} {cc : CC} {W : WP}
theorem map_len {f : Expr → VE} : ∀ es : List Expr, (mapE f es).len = es.length
  | [] => rfl
  | e :: es => by
    show (mapE f es).len + 1 = _
    rw [map_len es, List.length_cons]
theorem small_line {n : Nat} (h : n ≤ 1000) : n ≤ sizeLine := Nat.le_trans h (by decide)
theorem s_tup {f : Expr → VE} (h : ∀ e, PE X e (tE C Γ W (f e))) {es : List Expr} {k : Nat} {pos : Pos} (hs : noStars es = true) (hl : es.length ≤ 1000) : PE X (.Tuple es k pos) (tE C Γ W (.tup (mapE f es))) := by
  refine pe_imp (pe_tup (s_args h hs)) ?_
  rintro σ H Q ⟨S, F0, H0, F, ρ, K, E, O, hw, hx, g⟩
  unfold wE at hw
  refine ⟨S, F0, H0, F, ρ, _, E, O, hw, hx, fun rs ρ1 vs F1 H1 O1 t1 q1 l1 hk => ?_⟩
  obtain ⟨lv, hk⟩ := lvs_iff.mp hk
  obtain ⟨F2, O2, t2, r2⟩ := freezes O1 q1 lv
  refine ⟨small_line (by rw [rreps_len q1, l1, map_len]; exact hl), fun p hp => ?_⟩
  exact g (.val (.tup (rs.map R.d))) _ _ _ _ (O2.newF hp _) ((t1.trans t2).trans (Tr.newF hp (O2.new hp).2.2 _)) ⟨p, vs, rfl, upd_same, r2.mono (Sub.upd (O2.new hp).2.2)⟩ trivial hk
theorem s_lst {f : Expr → VE} (h : ∀ e, PE X e (tE C Γ W (f e))) {es : List Expr} {pos : Pos} (hs : noStars es = true) (hl : es.length ≤ 1000) : PE X (.List es pos) (tE C Γ W (.lst (mapE f es))) := by
  refine pe_imp (pe_lst (s_args h hs)) ?_
  rintro σ H Q ⟨S, F0, H0, F, ρ, K, E, O, hw, hx, g⟩
  unfold wE at hw
  refine ⟨S, F0, H0, F, ρ, _, E, O, hw, hx, fun rs ρ1 vs F1 H1 O1 t1 q1 l1 hk => ?_⟩
  obtain ⟨lv, hk⟩ := lvs_iff.mp hk
  obtain ⟨F2, O2, t2, r2⟩ := freezes O1 q1 lv
  refine ⟨small_line (by rw [rreps_len q1, l1, map_len]; exact hl), fun p hp => ?_⟩
  have n := O2.new hp
  exact g (.tmp (.lst (rs.map R.d))) _ _ _ _ (O2.newO hp _) ((t1.trans t2).trans (Tr.newO hp _)) ⟨p, rfl, n.1, n.2.1, O2.noslot hp, _, upd_same, vs, rfl, r2⟩ (fun b e => by cases e; exact n.2.2) hk
theorem vIx_mono {x y : D} {K K' : D → Prop} (h : ∀ b, K b → K' b) (t : vIx x y K) : vIx x y K' := by
  unfold vIx at t ⊢
  split at t
  · obtain ⟨d, e, k⟩ := t; exact ⟨d, e, h _ k⟩
  · obtain ⟨d, e, k⟩ := t; exact ⟨d, e, h _ k⟩
  · obtain ⟨l, d, e, k⟩ := t; exact ⟨l, d, e, h _ k⟩
  · obtain ⟨q, d, e1, e, k⟩ := t; exact ⟨q, d, e1, e, h _ k⟩
  · obtain ⟨q, d, e1, e, k⟩ := t; exact ⟨q, d, e1, e, h _ k⟩
  · exact t
theorem s_ix (cx : Ctx C Γ X cc W) {a b : Expr} {pos : Pos} {va vb : VE} (hs : isSlice b = false) (ha : PE X a (tE C Γ W va)) (hb : PE X b (tE C Γ W vb)) : PE X (.Subscript a b pos) (tE C Γ W (.ix va vb)) := by
  refine pe_imp (pe_ix (ix_V cx.K cx.un) ha hb (slice_plain hs)) ?_
  rintro σ H Q ⟨S, F0, H0, F, ρ, K, E, O, hw, hx, g⟩
  unfold wE at hw
  refine ⟨S, F0, H0, F, ρ, _, E, O, hw, hx, fun r1 ρ1 v1 F1 H1 O1 t1 q1 f1 hw1 => ⟨S, F0, H0, F1, ρ1, _, E, O1, hw1, hx, fun r2 ρ2 v2 F2 H2 O2 t2 q2 f2 hk => ?_⟩⟩
  obtain ⟨w1, hk⟩ := view_of O2 (q1.tr t2) hk
  obtain ⟨w2, _⟩ := view_of O2 q2 f2.lv
  exact ⟨S, F2, _, _, O2.sub, w1, w2, vIx_mono (fun d hd v rv => g (.val d) ρ2 v F2 H2 O2 (t1.trans t2) rv trivial hd) hk⟩
theorem View.asInt {F H : Hp} {S : SG} {d : D} {v : V} {c : Int} (e : d = .int c) (h : View C S F H d v) : v = .int c := by
  subst e
  exact h.int
theorem s_po {f : Expr → VE} (h : ∀ e, PE X e (tE C Γ W (f e))) : ∀ o : Option Expr, PO X o (tO C Γ W (match o with
    | some e => .some (f e)
    | none => .none))
  | none => by
    refine po_imp po_none ?_
    rintro σ H Q ⟨S, F0, H0, F, ρ, K, E, O, hw, hx, g⟩
    unfold wO at hw
    exact g none ρ F H O Tr.refl hw
  | some e => by
    refine po_imp (po_some (h e)) ?_
    rintro σ H Q ⟨S, F0, H0, F, ρ, K, E, O, hw, hx, g⟩
    unfold wO at hw
    refine ⟨S, F0, H0, F, ρ, _, E, O, hw, hx, fun r1 ρ1 v1 F1 H1 O1 t1 q1 f1 hw1 => ?_⟩
    obtain ⟨i, e, hk⟩ := hw1
    obtain ⟨w1, _⟩ := view_of O1 q1 f1.lv
    exact ⟨i, w1.asInt e, g (some i) ρ1 F1 H1 O1 t1 hk⟩
theorem s_sl (cx : Ctx C Γ X cc W) {a : Expr} {lo hi : Option Expr} {p2 pos : Pos} {va : VE} {vl vh : VO} (ha : PE X a (tE C Γ W va)) (hl : PO X lo (tO C Γ W vl)) (hh : PO X hi (tO C Γ W vh)) : PE X (.Subscript a (.Slice lo hi none p2) pos) (tE C Γ W (.sl va vl vh)) := by
  refine pe_imp (pe_slice (sl_V cx.K) ha hl hh) ?_
  rintro σ H Q ⟨S, F0, H0, F, ρ, K, E, O, hw, hx, g⟩
  unfold wE at hw
  refine ⟨S, F0, H0, F, ρ, _, E, O, hw, hx, fun r1 ρ1 v1 F1 H1 O1 t1 q1 f1 hw1 => ⟨S, F0, H0, F1, ρ1, _, E, O1, hw1, hx, fun l ρ2 F2 H2 O2 t2 hw2 => ⟨S, F0, H0, F2, ρ2, _, E, O2, hw2, hx, fun u ρ3 F3 H3 O3 t3 hk => ?_⟩⟩⟩
  obtain ⟨w1, hk⟩ := view_of O3 (q1.tr (t2.trans t3)) hk
  exact ⟨S, F0, H0, F3, σ, ρ3, _, _, O3, w1, hk, fun r v F' H' O' t' q' f' hk' => g r ρ3 v F' H' O' ((t1.trans (t2.trans t3)).trans t') q' f' hk'⟩

/-! ### calls -/
section
variable {S : SG} {F0 H0 F F1 H F' H' : Hp} {σ : L2.St} {ρ ρ1 : En}
/-- behind a call: what was handed in stays frozen -/
theorem OK.call (O : OK C S F0 H0 F1 H σ ρ1) (e : Ext S F1 H F' H') : OK C S F0 H0 F' H' σ ρ1 where
  sub := e.sub
  fr := fun a o hp h => e.fr a o hp (O.fr a o hp h)
  p0 := O.p0
  f0 := O.f0.trans e.f
  fn := fun a o h => by
    rcases e.fn a o h with z | z | z
    · exact O.fn a o z
    · exact .inr (.inl (O.new z).1)
    · exact .inr (.inr z)
  len := O.len
  val := fun i d h => by
    obtain ⟨v, e1, r⟩ := O.val i d h
    exact ⟨v, e1, r.mono e.f⟩
  own := fun i d h => by
    obtain ⟨a, e1, h0, f, hp, k⟩ := O.own i d h
    refine ⟨a, e1, h0, ?_, hp, ?_⟩
    · cases q : F' a with
      | none => rfl
      | some o =>
        obtain ⟨o', w, r⟩ := k
        rcases e.fn a o q with z | z | ⟨ts, z⟩
        · rw [f] at z; cases z
        · exact absurd e1 (O.noslot z i d h)
        · have e2 := e.sub a o q
          rw [e.fr a _ hp w] at e2
          cases e2
          exact (r.ntup ts z).elim
    · obtain ⟨o', w, r⟩ := k
      exact ⟨o', e.fr a _ hp w, r.mono e.f⟩
  dis := O.dis
  sto := e.sto
theorem Ext.tr (e : Ext S F1 H F' H') : Tr S ρ ρ σ F1 H F' H' where
  f := e.f
  dom := fun a h => by
    cases q : H a with
    | none => exact absurd q h
    | some o =>
      by_cases hp : a = S.p
      · subst hp; exact e.sto.has
      · rw [e.fr a o hp q]; exact fun z => by cases z
  keep := fun a o h hp _ => e.fr a o hp h
  owns := fun _ d h => ⟨d, h⟩
/-- F and the tuples of F' -/
def plusT (F F' : Hp) : Hp := fun a => match F a with
  | some o => some o
  | none => match F' a with
    | some (.tup ts) => some (.tup ts)
    | _ => none
theorem plusT_sub : Sub F (plusT F F') := fun a o h => by
  unfold plusT
  rw [h]
theorem plusT_tup {ts : List V} {a : Addr} (s : Sub F F') (h : F' a = some (.tup ts)) : plusT F F' a = some (.tup ts) := by
  unfold plusT
  cases q : F a with
  | some o => rw [s a o q] at h; exact h
  | none => simp only [h]
theorem plusT_cases {a : Addr} {o : HO} (h : plusT F F' a = some o) : F a = some o ∨ (F a = none ∧ F' a = some o ∧ ∃ ts, o = .tup ts) := by
  unfold plusT at h
  cases q : F a with
  | some o' => rw [q] at h; exact .inl h
  | none =>
    rw [q] at h
    cases q' : F' a with
    | none => simp only [q'] at h; cases h
    | some o' =>
      simp only [q'] at h
      cases o' <;> first | (cases h; exact .inr ⟨rfl, rfl, _, rfl⟩) | cases h
mutual
theorem Rep.plusT (s : Sub F F') : ∀ (d : D) (v : V), d.lf = true → Rep C S F' d v → Rep C S (plusT F F') d v
  | .tup ds, v, h, r => by
    unfold Rep at r ⊢
    obtain ⟨a, vs, e, z, rs⟩ := r
    exact ⟨a, vs, e, plusT_tup s z, Reps.plusT s ds vs h rs⟩
  | .non, v, _, r => Rep.scal rfl r
  | .bl _, v, _, r => Rep.scal rfl r
  | .int _, v, _, r => Rep.scal rfl r
  | .str _, v, _, r => Rep.scal rfl r
  | .tok, _, h, _ => by cases h
  | .lst _, _, h, _ => by cases h
  | .dicK _ _, _, h, _ => by cases h
  | .dicT _ _, _, h, _ => by cases h
  | .obj _ _, _, h, _ => by cases h
  | .exn _ _, _, h, _ => by cases h
theorem Reps.plusT (s : Sub F F') : ∀ (ds : List D) (vs : List V), D.lfs ds = true → Reps C S F' ds vs → Reps C S (plusT F F') ds vs
  | [], vs, _, r => by
    unfold Reps at r ⊢
    exact r
  | d :: ds, vs, h, r => by
    unfold D.lfs at h
    rw [Bool.and_eq_true] at h
    unfold Reps at r ⊢
    obtain ⟨v, us, e, h1, h2⟩ := r
    exact ⟨v, us, e, Rep.plusT s d v h.1 h1, Reps.plusT s ds us h.2 h2⟩
end
/-- behind a call whose value has no list, dict, object: what was lent is owned again -/
theorem OK.callS (O : OK C S F0 H0 F H σ ρ) (s : Sub F F1) (e : Ext S F1 H F' H') : OK C S F0 H0 (plusT F F') H' σ ρ where
  sub := fun a o h => (plusT_cases h).elim (fun h => e.sub a o (e.f a o (s a o h))) fun h => e.sub a o h.2.1
  fr := fun a o hp h => e.fr a o hp (O.fr a o hp h)
  p0 := O.p0
  f0 := O.f0.trans plusT_sub
  fn := fun a o h => (plusT_cases h).elim (O.fn a o) fun h => .inr (.inr h.2.2)
  len := O.len
  val := fun i d h => by
    obtain ⟨v, e1, r⟩ := O.val i d h
    exact ⟨v, e1, r.mono plusT_sub⟩
  own := fun i d h => by
    obtain ⟨a, e1, h0, f, hp, k⟩ := O.own i d h
    obtain ⟨o', z, r⟩ := k
    refine ⟨a, e1, h0, ?_, hp, o', e.fr a _ hp z, r.mono plusT_sub⟩
    cases q : plusT F F' a with
    | none => rfl
    | some o =>
      rcases plusT_cases q with h | ⟨_, h, ts, ho⟩
      · rw [f] at h; cases h
      · have e2 := e.sub a o h
        rw [e.fr a _ hp z] at e2
        cases e2
        exact (r.ntup ts ho).elim
  dis := O.dis
  sto := by
    refine ⟨plusT_sub _ _ O.sto.cells, ?_, O.sto.len, e.sto.st⟩
    cases q : plusT F F' S.p with
    | none => rfl
    | some o =>
      rcases plusT_cases q with h | ⟨_, h, _⟩
      · rw [O.sto.free] at h; cases h
      · rw [e.sto.free] at h; cases h
theorem Ext.trS (s : Sub F F1) (e : Ext S F1 H F' H') : Tr S ρ ρ σ F H (plusT F F') H' where
  f := plusT_sub
  dom := (e.tr (σ := σ) (ρ := ρ)).dom
  keep := fun a o h hp _ => e.fr a o hp h
  owns := fun _ d h => ⟨d, h⟩
end
theorem res_scal {S : SG} {H F' H' : Hp} {o : Bool} {d : D} {v : V} (hs : d.lf = true) (h : Res C S H F' H' o d v) : o = false ∧ Rep C S F' d v := by
  unfold Res at h
  cases o with
  | false => exact ⟨rfl, h⟩
  | true =>
    obtain ⟨a, _, _, _, _, o', _, k⟩ := h
    cases d <;> first | exact k.elim | cases hs
theorem call_core {W : WP} {k : Nat} {S : SG} {F0 H0 F H F1 H1 : Hp} {σ : L2.St} {ρ ρ1 : En} {K : EK} {E : VL.XK} {Q : VK} {rs : List R} {vs : List V} (hx : XOK C S F0 H0 W E) (g : Cont C S F0 H0 σ ρ F H K Q) (O1 : OK C S F0 H0 F1 H1 σ ρ1) (t1 : Tr S ρ ρ1 σ F H F1 H1) (q1 : RReps C S H0 F1 H1 σ ρ1 rs vs)
    (hk : lvs rs ρ1 ((Γ k).run (rs.map R.d) (fun o d => K (if o then .tmp d else .val d) (if d.lf then ρ1 else fzs rs ρ1)) fun x => E x (fzs rs ρ1))) : ∀ (P : SG → Prop), (∀ S, W.ok S → P S) → lift C P (Γ k) vs H1 Q (WE W.w σ) := by
  intro P hP
  obtain ⟨lv, hk⟩ := lvs_iff.mp hk
  obtain ⟨F2, O2, t2, r2⟩ := freezes O1 q1 lv
  unfold VSp.run at hk
  obtain ⟨x, ex, hp, hpost, hexc⟩ := hk
  rw [ex] at r2
  refine ⟨S, F2, x, hP S hx.1, O2.sub, O2.sto, r2, hp, fun o d v F' H' hq he hr => ?_, fun e cls dx F' H' hq he ha => hx.2 e _ F' H' σ cls dx (O2.call he) ha (hexc e hq)⟩
  have hk : K (if o = true then R.tmp d else R.val d) (if d.lf = true then ρ1 else fzs rs ρ1) := hpost o d hq
  cases hs : d.lf with
  | true =>
    rw [hs] at hk
    obtain ⟨e0, rv⟩ := res_scal hs hr
    subst e0
    exact g (.val d) ρ1 v _ H' (O1.callS t2.f he) (t1.trans (he.trS t2.f)) (Rep.plusT (t2.f.trans he.f) d v hs rv) trivial hk
  | false =>
    rw [hs] at hk
    have O3 := O2.call he
    have t3 := (t1.trans t2).trans he.tr
    unfold Res at hr
    cases o with
    | false => exact g (.val d) _ v F' H' O3 t3 hr trivial hk
    | true =>
      obtain ⟨a, e1, h1, f1, hpp, kk⟩ := hr
      refine g (.tmp d) _ v F' H' O3 t3 ⟨a, e1, (O2.new h1).1, hpp, O2.noslot h1, ?_⟩ (fun b e => by rw [e1] at e; cases e; exact f1) hk
      exact kk
theorem run_fnX {lv : Nat} {f : Addr} {fd : FuncData} {ps : List Str} {sp : Addr × Obj → Sp} {CX : CXT} {E : L2.St → L2.XK} {p : Addr × Obj} {pins : List (Addr × Obj)} {σ : L2.St} {H : Hp} {s : Shared} {Q : VK} {us : List Value} {vs : List V} (F : FnX X.prog X.w X.K X.mg X.base CX lv f fd ps sp) (hr : L2H.RoomH lv X.A)
    (hp : p ∈ X.pn) (hot : L2H.Hot1 X.A p) (hb : Binds X.K fd ps []) (hx : PassesAt CX X σ (E σ)) (I : Inv X pins σ H s) (r : Vals vs us) (h : sp p vs H Q (E σ)) : wpAny (model X.prog X.w) X.A (PySem.call (.ref f) us) (EP X pins σ Q) X.xe s := by
  have hl : us.length = ps.length := by rw [← r.length]; exact F.len _ _ _ _ _ h
  have b := hb s us I.kIn (by rw [List.append_nil]; exact hl)
  rw [List.append_nil] at b
  have P1 := I.pin p (List.mem_append_left _ hp)
  have hpin : L2H.PinOk X.stack H s p := ⟨P1.1, P1.2.1, fun hm => (List.mem_cons.mp (I.stkSub p.1 hm)).elim P1.2.2.1 P1.2.2.2.1, P1.2.2.2.2⟩
  refine wpAny_call (codeAny_mono (F.run X.A X.stack s H ⟨us, []⟩ us vs Q (E σ) p hr hot hpin I.env0 b r h) fun r s' hq => ?_)
  cases r with
  | error e => exact hx pins H s e s' I hq
  | ok fl =>
    cases fl with
    | ret u => exact I.after hq
    | next => exact False.elim hq
    | brk => exact False.elim hq
    | cont => exact False.elim hq
theorem pe_callX {lv : Nat} {f : Addr} {fd : FuncData} {ps : List Str} {sp : Addr × Obj → Sp} {CX : CXT} {E : L2.St → L2.XK} {p : Addr × Obj} {x : Str} {q pos : Pos} {e : Expr} {es : List Expr} {t : TA} (F : FnX X.prog X.w X.K X.mg X.base CX lv f fd ps sp) (hr : L2H.RoomH lv X.A) (hp : p ∈ X.pn) (hot : L2H.Hot1 X.A p)
    (hg : Gl X x) (hm : X.mg x = some (.ref f)) (hk : PySem.W.keepIn X.K (.ref f) = true) (hb : Binds X.K fd ps []) (hx : ∀ σ, PassesAt CX X σ (E σ))
    (ha : PA X (e :: es) t) (hdb : (x == ("__debug__" : Str)) = false) (he : starEach (e :: es) X.env = (false, eval e X.env) :: starEach es X.env) (hpl : (backTo pos (starEach es X.env)).any (·.1) = false) :
    PE X (.Call (.Name x q) (e :: es) [] pos) (tCallS (sp p) E t) := by
  refine ⟨fun pins s σ H Q I h => ?_⟩
  refine wpAny_Call_Name_kw (ld_glob I hg hm ?_ hdb)
  refine PySem.W.callWith_K (h₀ := X.base) I.ok.mod.kin hk (thn (ha.run pos pins s σ H _ I h) fun us s1 ⟨vs, H1, I1, r, q⟩ => ⟨I1.kIn, ?_⟩) he hpl
  exact run_fnX F hr hp hot hb (hx σ) I1 r q
theorem s_call (cx : Ctx C Γ X cc W) {f : Expr → VE} (h : ∀ e, PE X e (tE C Γ W (f e))) {x : Str} {k : Nat} {e : Expr} {es : List Expr} {p pos : Pos} (hg : cc.gl x = true) (hf : cc.fns.lookup x = some k) (hs : noStars (e :: es) = true) :
    PE X (.Call (.Name x p) (e :: es) [] pos) (tE C Γ W (.call k (mapE f (e :: es)))) := by
  obtain ⟨lv, fa, fd, ps, Fc, Fh, hm, hk, hb⟩ := cx.fns x k hf
  have hs' := hs
  unfold noStars at hs'
  rw [List.all_cons, Bool.and_eq_true] at hs'
  cases hh : cc.hot with
  | false =>
    obtain ⟨F, hr⟩ := Fc hh
    refine pe_imp (pe_callS (E := WE W.w) F hr (cx.glob hg) hm hk hb (L2N.passAt cx.tk) (s_args h hs) (okN_ok (CC.gl_okN hg)).1 (star_cons (by simpa using hs'.1)) (by rw [back_any]; exact star_plain hs'.2)) ?_
    rintro σ H Q ⟨S, F0, H0, F, ρ, K, E, O, hw, hx, g⟩
    unfold wE at hw
    exact ⟨S, F0, H0, F, ρ, _, E, O, hw, hx, fun rs ρ1 vs F1 H1 O1 t1 q1 l1 hk => call_core hx g O1 t1 q1 hk _ (fun S h => (cx.cold hh).2 ▸ h)⟩
  | true =>
    obtain ⟨F, hr⟩ := Fh hh
    obtain ⟨pp, cls, d, hpn, zn, ⟨fv, hfv⟩, hot, hok⟩ := cx.hot hh
    refine pe_imp (pe_callX (E := WE W.w) (p := pp) F hr hpn ⟨hot, fv, hfv, zn.2.2 fv hfv⟩ (cx.glob hg) hm hk hb (L2N.passAt cx.tk) (s_args h hs) (okN_ok (CC.gl_okN hg)).1 (star_cons (by simpa using hs'.1)) (by rw [back_any]; exact star_plain hs'.2)) ?_
    rintro σ H Q ⟨S, F0, H0, F, ρ, K, E, O, hw, hx, g⟩
    unfold wE at hw
    exact ⟨S, F0, H0, F, ρ, _, E, O, hw, hx, fun rs ρ1 vs F1 H1 O1 t1 q1 l1 hk => call_core hx g O1 t1 q1 hk _ (fun S h => by
      rw [hok] at h
      obtain ⟨c, dx, e1, e2, e3⟩ := h
      subst e2 e3
      exact ⟨c, dx, e1, zn, fv, hfv⟩)⟩
theorem boots : ∀ x b, bNames.lookup x = some b → bootBuiltins x = some (bV b) ∧ b ≠ .range := by
  intro x b h
  have : (x, b) ∈ bNames := by
    have := List.lookup_eq_some_iff.mp h
    obtain ⟨l1, l2, e, _⟩ := this
    rw [e]
    simp
  unfold bNames at this
  simp only [List.mem_cons, Prod.mk.injEq, List.not_mem_nil, or_false] at this
  rcases this with ⟨rfl, rfl⟩ | ⟨rfl, rfl⟩ | ⟨rfl, rfl⟩ | ⟨rfl, rfl⟩ | ⟨rfl, rfl⟩ | ⟨rfl, rfl⟩ | ⟨rfl, rfl⟩ | ⟨rfl, rfl⟩ | ⟨rfl, rfl⟩ | ⟨rfl, rfl⟩ | ⟨rfl, rfl⟩ | ⟨rfl, rfl⟩ <;> exact ⟨by decide +kernel, by decide⟩
theorem bV_kind (b : B) : (∃ id, bV b = .builtin id) ∨ ∃ T, bV b = .type T := by cases b <;> first | exact .inl ⟨_, rfl⟩ | exact .inr ⟨_, rfl⟩
theorem s_blt (cx : Ctx C Γ X cc W) {f : Expr → VE} (h : ∀ e, PE X e (tE C Γ W (f e))) {x : Str} {b : B} {e : Expr} {es : List Expr} {p pos : Pos} (hg : cc.free x = true) (hb : bNames.lookup x = some b) (hs : noStars (e :: es) = true) (hot : (!cc.hot || b.hotOk) = true) :
    PE X (.Call (.Name x p) (e :: es) [] pos) (tE C Γ W (.blt b (mapE f (e :: es)))) := by
  obtain ⟨g1, g2, g3⟩ := CC.free_ok hg
  obtain ⟨hv, hr⟩ := boots x b hb
  have hs' := hs
  unfold noStars at hs'
  rw [List.all_cons, Bool.and_eq_true] at hs'
  have main : ∀ σ H Q, tE C Γ W (.blt b (mapE f (e :: es))) σ H Q → tCB (rBlt C b) (tEs C Γ W (mapE f (e :: es))) σ H Q := by
    rintro σ H Q ⟨S, F0, H0, F, ρ, K, E, O, hw, hx, g⟩
    unfold wE at hw
    refine ⟨S, F0, H0, F, ρ, _, E, O, hw, hx, fun rs ρ1 vs F1 H1 O1 t1 q1 l1 hk => ?_⟩
    obtain ⟨w1, hk⟩ := views_of O1 q1 hk
    exact ⟨S, F0, H0, F1, σ, ρ1, _, _, O1, w1, hr, hk, fun r v F' H' O' t' q' f' hk' => g r ρ1 v F' H' O' (t1.trans t') q' f' hk'⟩
  have cr := call_blt (X := X) cx.K (b := b) (by
    cases hh : cc.hot with
    | false => exact .inl (cx.cold hh).1
    | true => rw [hh] at hot; exact .inr (by simpa using hot)) (by decide)
  rcases bV_kind b with ⟨id, e1⟩ | ⟨T, e1⟩
  · rw [e1] at hv cr
    exact pe_imp (pe_callB cr (cx.glob g1) (cx.blt x g2) hv (s_args h hs) g3 (okN_ok (CC.gl_okN g1)).1 (star_cons (by simpa using hs'.1)) (by rw [back_any]; exact star_plain hs'.2)) main
  · rw [e1] at hv cr
    exact pe_imp (pe_callTy cr (cx.glob g1) (cx.blt x g2) hv (s_args h hs) g3 (okN_ok (CC.gl_okN g1)).1 (star_cons (by simpa using hs'.1)) (by rw [back_any]; exact star_plain hs'.2)) main
theorem tys : ∀ x n, tNames.lookup x = some n → bootBuiltins x = some (.type n) ∧ n ∈ ["NoneType", "bool", "int", "str", "list", "tuple", "dict"] := by
  intro x b h
  have : (x, b) ∈ tNames := by
    have := List.lookup_eq_some_iff.mp h
    obtain ⟨l1, l2, e, _⟩ := this
    rw [e]
    simp
  unfold tNames at this
  simp only [List.mem_cons, Prod.mk.injEq, List.not_mem_nil, or_false] at this
  rcases this with ⟨rfl, rfl⟩ | ⟨rfl, rfl⟩ | ⟨rfl, rfl⟩ | ⟨rfl, rfl⟩ | ⟨rfl, rfl⟩ | ⟨rfl, rfl⟩ <;> exact ⟨by decide +kernel, by simp⟩
theorem vIsin_mono {d : D} {t : Ty} {K K' : Bool → Prop} (h : ∀ b, K b → K' b) (q : vIsin d t K) : vIsin d t K' := by
  unfold vIsin at q ⊢
  split at q
  · split at q <;> first | exact h _ q | exact q
  · split at q <;> first | exact h _ q | exact ⟨q.choose, q.choose_spec.1, h _ q.choose_spec.2⟩ | exact q
theorem s_isin (cx : Ctx C Γ X cc W) {a : Expr} {va : VE} {t : Str} {n : String} {p p2 pos : Pos} (hg : cc.free "isinstance" = true) (ht : cc.free t = true) (hn : tNames.lookup t = some n) (hs : isStar a = false) (ha : PE X a (tE C Γ W va)) :
    PE X (.Call (.Name "isinstance" p) [a, .Name t p2] [] pos) (tE C Γ W (.isin va (.bi n))) := by
  obtain ⟨g1, g2, g3⟩ := CC.free_ok hg
  obtain ⟨u1, u2, u3⟩ := CC.free_ok ht
  obtain ⟨hv, hmem⟩ := tys t n hn
  have st1 : starEach [a, .Name t p2] X.env = (false, eval a X.env) :: starEach [.Name t p2] X.env := star_cons hs
  refine pe_imp (pe_callB call_isi (cx.glob g1) (cx.blt _ g2) (by decide +kernel) (pa_cons ha (pa_cons (pe_bltn (v := .ty n) (cx.glob u1) (cx.blt _ u2) hv rfl u3 (okN_ok (CC.gl_okN u1)).1) pa_nil rfl) st1) g3 (okN_ok (CC.gl_okN g1)).1 st1 (by rw [back_any]; rfl)) ?_
  rintro σ H Q ⟨S, F0, H0, F, ρ, K, E, O, hw, hx, g⟩
  unfold wE at hw
  refine ⟨S, F0, H0, F, ρ, _, E, O, hw, hx, fun r1 ρ1 v1 F1 H1 O1 t1 q1 f1 hw1 => ?_⟩
  obtain ⟨w1, _⟩ := view_of O1 q1 f1.lv
  exact isin_V cx.K O1.sub w1 hmem (vIsin_mono (fun b hb => g (.val (.bl b)) ρ1 _ F1 H1 O1 t1 rrep_bl trivial hb) hw1)

/-! ### the handled exception -/
/-- isinstance(e, c), e the exception that is handled -/
def rIsX (K : PySem.W.Frag) (a : Addr) (cls : Value) (d : Option Addr) : List V → Hp → VK → Prop := fun xs H Q => ∃ (c : V) (cv : Value) (b : Bool) (D dx : Addr) (fl : List (Str × V)), xs = [.ref a, c] ∧ (∀ u, RelV c u → u = cv) ∧ cls = .ref D ∧ d = some dx ∧ H dx = some (.xd fl) ∧ ExcC K D ∧ PySem.W.kitOne K (.ref D) cv = some b ∧ Q (.bl b) H
theorem call_isX {p : Addr × Obj} {cls : Value} {d : Option Addr} (hp : p ∈ X.pn) (hz : L2N.Zn cls d p.2) (hf : ∃ vs, p.2.data = .fields vs) : CallR X (.builtin "isinstance") (rIsX X.K p.1 cls d) := by
  intro pins s σ H xs us Q I r h
  obtain ⟨c, cv, b, D, dx, fl, rfl, hcv, rfl, rfl, hd, T, e, q⟩ := h
  cases r with
  | cons rx rr =>
    cases rr with
    | cons rt rr =>
      cases rr
      cases rx
      have ec := hcv _ rt
      subst ec
      obtain ⟨hget, _⟩ := I.pin p (List.mem_append.mpr (.inl hp))
      obtain ⟨vs, hv⟩ := hf
      have hx : ObjOk X.prog X.w H s.heap dx (.xd fl) := I.hok dx _ hd
      obtain ⟨mA, hns, hr⟩ := hx
      obtain ⟨od, ho, hl⟩ := lookIn_ns hns
      have J : PySem.W.InstAt s.heap p.1 p.2 D (some od) := ⟨hget, hz.1, by unfold PySem.W.notCls; rw [hv] <;> rfl, by rw [hz.2.1]; exact ho⟩
      have hcl : (PySem.W.clsIn X.K D).isSome = true := by
        obtain ⟨cd, hc, _⟩ := PySem.W.any_some T.hd
        rw [hc] <;> rfl
      exact PySem.W.kia_one (PySem.W.kitx_exc hcl T.hg T.hk T.hs T.ha T.hn T.ht T.hm) I.kIn J e (fun z => nomatch z) fun tk => ⟨.bl b, H, I.kept (t' := tk) fun _ _ z => z, rfl, q⟩
/-- the name of a class, as a value -/
theorem pe_cname {t : Str} {v : V} {cv : Value} {p : Pos} (hg : Gl X t) (hdb : (t == ("__debug__" : Str)) = false) (hv : RelV v cv) (h : X.mg t = some cv ∨ (X.mg t = none ∧ bootBuiltins t = some cv ∧ t ≠ ("__name__" : Str))) : PE X (.Name t p) (L2.tC v) := by
  rcases h with h | ⟨h1, h2, h3⟩
  · exact pe_glob hg h hv hdb
  · exact pe_bltn hg h1 h2 hv h3 hdb
theorem s_isinX (cx : Ctx C Γ X cc W) {a : Expr} {va : VE} {t : Str} {tab : List (Nat × Bool)} {p p2 pos : Pos} (hg : cc.free "isinstance" = true) (hh : cc.hot = true) (ht : cc.gl t = true) (hn : cc.isx.lookup t = some tab) (hs : isStar a = false) (ha : PE X a (tE C Γ W va)) :
    PE X (.Call (.Name "isinstance" p) [a, .Name t p2] [] pos) (tE C Γ W (.isin va (.own tab))) := by
  obtain ⟨g1, g2, g3⟩ := CC.free_ok hg
  obtain ⟨pp, cls, d, hpn, zn, hfv, hot, hok⟩ := cx.hot hh
  obtain ⟨v, cv, hrel, hmean, htab⟩ := cx.ix t tab hn
  have st1 : starEach [a, .Name t p2] X.env = (false, eval a X.env) :: starEach [.Name t p2] X.env := star_cons hs
  refine pe_imp (pe_callB (call_isX hpn zn hfv) (cx.glob g1) (cx.blt _ g2) (by decide +kernel) (pa_cons ha (pa_cons (pe_cname (cx.glob ht) (okN_ok (CC.gl_okN ht)).1 ((hrel cv).mpr rfl) hmean) pa_nil rfl) st1) g3 (okN_ok (CC.gl_okN g1)).1 st1 (by rw [back_any]; rfl)) ?_
  rintro σ H Q ⟨S, F0, H0, F, ρ, K, E, O, hw, hx, g⟩
  unfold wE at hw
  refine ⟨S, F0, H0, F, ρ, _, E, O, hw, hx, fun r1 ρ1 v1 F1 H1 O1 t1 q1 f1 hw1 => ?_⟩
  obtain ⟨w1, _⟩ := view_of O1 q1 f1.lv
  have hxo := hx.1
  rw [hok] at hxo
  obtain ⟨c0, dx, e1, e2, e3⟩ := hxo
  simp only [vIsin] at hw1
  split at hw1
  · rename_i c fs hd
    obtain ⟨b, hb, hk⟩ := hw1
    rw [hd] at w1
    have w1 : Rep C S F1 (.exn c fs) v1 := w1
    unfold Rep at w1
    obtain ⟨a', dx', fl, vs, e4, e5, e6, _, _⟩ := w1
    rw [e1] at e4
    cases e4
    obtain ⟨T, k1, _⟩ := htab c0 b hb
    subst e5 e2 e3
    exact ⟨v, cv, b, C.cls c0, dx, fl, rfl, fun u hu => (hrel u).mp hu, rfl, rfl, O1.sub _ _ e6, T, k1, g (.val (.bl b)) ρ1 _ F1 H1 O1 t1 rrep_bl trivial hk⟩
  · exact hw1.elim
theorem pe_xfX {p : Addr × Obj} {cls : Value} {d : Option Addr} (hp : p ∈ X.pn) (hz : L2N.Zn cls d p.2) (hf : ∃ vs, p.2.data = .fields vs) {e : Expr} {te : TE} {pos : Pos} {n : Str} (he : PE X e te) (hb : attributeBase e n X.env (eval e X.env) = eval e X.env) :
    PE X (.Attribute e n pos) (fun σ H Q => te σ H fun x H1 => ∃ D, XfC X.K D ∧ PySem.W.findIn X.K (.ref D) n = some none ∧ tXf p.1 cls d D n (fun _ H Q => Q x H) σ H1 Q) := by
  refine ⟨fun pins s σ H Q I h => ?_⟩
  refine attr_of hb (thn (he.run pins s σ H _ I h) fun u s1 hh => ?_)
  obtain ⟨x, H1, I1, rx, C, T, hno, ex, ec, dd, fs, v, ed, ea, l, q⟩ := hh
  subst ex
  obtain rfl : u = Value.ref p.1 := rx
  subst ec
  subst ed
  obtain ⟨ha, _⟩ := I1.pin p (List.mem_append_left _ hp)
  obtain ⟨vs, hd⟩ := hf
  have hx : ObjOk X.prog X.w H1 s1.heap dd (.xd fs) := I1.hok dd _ ea
  obtain ⟨mA, hns, hr⟩ := hx
  obtain ⟨od, ho, hl⟩ := lookIn_ns hns
  obtain ⟨u, hu, ru⟩ := RelO.some_of (v := v) (o := mA n) (by rw [← l]; exact hr n)
  have J : PySem.W.InstAt s1.heap p.1 p.2 C (some od) := ⟨ha, hz.1, by unfold PySem.W.notCls; rw [hd] <;> rfl, by rw [hz.2.1]; exact ho⟩
  exact HandSPX.exc_get I1.kIn J T.ga T.gg T.exC (PySem.W.findObj_own T.hdC hno rfl (by rw [hl, hu])) (handed_of ru) ⟨v, H1, I1.tok _, ru, q⟩
theorem s_fldX (cx : Ctx C Γ X cc W) {x f : Str} {va : VE} {tab : List (Nat × Nat)} {p pos : Pos} (hh : cc.hot = true) (hn : cc.flds.lookup f = some tab) (ha : PE X (.Name x p) (tE C Γ W va)) :
    PE X (.Attribute (.Name x p) f pos) (tE C Γ W (.fld va tab)) := by
  obtain ⟨pp, cls, d, hpn, zn, hfv, hot, hok⟩ := cx.hot hh
  refine pe_imp (pe_xfX hpn zn hfv ha (by rfl)) ?_
  rintro σ H Q ⟨S, F0, H0, F, ρ, K, E, O, hw, hx, g⟩
  unfold wE at hw
  refine ⟨S, F0, H0, F, ρ, _, E, O, hw, hx, fun r1 ρ1 v1 F1 H1 O1 t1 q1 f1 hw1 => ?_⟩
  obtain ⟨w1, _⟩ := view_of O1 q1 f1.lv
  have hxo := hx.1
  rw [hok] at hxo
  obtain ⟨c0, dx, e1, e2, e3⟩ := hxo
  have hw1 : vFld r1.d tab (fun d => K (.val d) ρ1) := hw1
  unfold vFld at hw1
  split at hw1
  · rename_i c fs hd
    obtain ⟨i, d1, hi, hd1, hk⟩ := hw1
    rw [hd] at w1
    have w1 : Rep C S F1 (.exn c fs) v1 := w1
    unfold Rep at w1
    obtain ⟨a', dx', fl, vs, e4, e5, e6, e7, r1⟩ := w1
    rw [e1] at e4
    cases e4
    obtain ⟨k1, k2, k3⟩ := cx.fl f tab c0 i hn hi
    obtain ⟨v, hv, rv⟩ := r1.at hd1
    subst e5 e2 e3
    exact ⟨C.cls c0, k2, k3, rfl, rfl, dx, fl, v, rfl, O1.sub _ _ e6, (e7.2 i f k1).trans hv, g (.val d1) ρ1 _ F1 H1 O1 t1 rv trivial hk⟩
  · exact hw1.elim
end
end VL
set_option maxHeartbeats 4000000
/-! VLg: methods, list(range(..)), targets, what is walked. -/
namespace VL
open PySem PySem.Spec PyProof.Rows L2
section
variable {C : CT} {Γ : Nat → VSp} {X : Cx} {cc : CC} {W : WP}
/-! ### methods -/
/-- what a method of a value's type is: asked behind the receiver's evaluation -/
def MetOk (X : Cx) (name : Str) (r : V → List V → Hp → VK → Prop) (x : V) (H : Hp) : Prop := ∃ T id, PlainAttrs T ∧ PySem.Slot T name id ∧ typeOf (.builtin id) = pure (.type "method_descriptor") ∧ MtR X id r ∧ tyV X.K T x H
theorem pe_bmU {o e : Expr} {es : List Expr} {to : TE} {t : TA} {name : Str} {apos cpos : Pos} {r : V → List V → Hp → VK → Prop} (ho : PE X o to) (ha : PA X (e :: es) t)
    (hbase : attributeBase o name X.env (eval o X.env) = eval o X.env)
    (hfew : ((backTo cpos (starEach (e :: es) X.env)).all (fun x => !x.1) && (backToKw cpos (keywordEach [] X.env)).all (fun x => x.1.isSome)
      && decide ((e :: es).length + ([] : List Keyword).length + (if ([] : List Keyword).isEmpty then 0 else 1) < 30)) = true)
    (hline : (apos.endLine == cpos.line) = true) (hs : starEach (e :: es) X.env = (false, eval e X.env) :: starEach es X.env) (hplain : (backTo cpos (starEach es X.env)).any (·.1) = false) :
    PE X (.Call (.Attribute o name apos) (e :: es) [] cpos) (fun σ H Q => to σ H fun x H1 => MetOk X name r x H1 ∧ t σ H1 fun xs H2 => r x xs H2 Q) := by
  refine ⟨fun pins s σ H Q I h => ?_⟩
  refine wpAny_Call_method_late hbase hfew hline rfl (thn (ho.run pins s σ H _ I h) fun v s1 ⟨x, H1, I1, r1, ⟨T, id, pa, slot, hty, hm, ty⟩, q1⟩ => ?_)
  obtain ⟨h1, h2⟩ := tyV_is I1 r1 ty
  refine ⟨T, id, pa, slot, hty, h1, h2, ?_⟩
  have hA := ha.run cpos pins s1 σ H1 _ I1 q1
  rw [hs] at hA ⊢
  refine Calls.callWith_builtin (by show (false || (backTo cpos (starEach es X.env)).any (·.1)) = false; rw [hplain] <;> rfl) (Calls.evalArgs_plain ?_)
  exact thn hA fun us s2 ⟨vs, H2, I2, r2, q2⟩ => hm pins s2 σ H2 x vs v us Q I2 r1 r2 q2
theorem pe_bmU0 {o : Expr} {to : TE} {name : Str} {apos cpos : Pos} {r : V → List V → Hp → VK → Prop} (ho : PE X o to) (hbase : attributeBase o name X.env (eval o X.env) = eval o X.env) (hline : (apos.endLine == cpos.line) = true) :
    PE X (.Call (.Attribute o name apos) [] [] cpos) (fun σ H Q => to σ H fun x H1 => MetOk X name r x H1 ∧ r x [] H1 Q) := by
  refine ⟨fun pins s σ H Q I h => ?_⟩
  refine wpAny_Call_method0_late hbase hline (thn (ho.run pins s σ H _ I h) fun v s1 ⟨x, H1, I1, r1, ⟨T, id, pa, slot, hty, hm, ty⟩, q1⟩ => ?_)
  obtain ⟨h1, h2⟩ := tyV_is I1 r1 ty
  exact ⟨T, id, pa, slot, hty, h1, h2, Calls.callWith_builtin rfl (PySem.evalArgs_none (hm pins s1 σ H1 x [] v [] Q I1 r1 .nil q1))⟩
/-- with n arguments -/
def rMetN (C : CT) (m : M) (n : Nat) : V → List V → Hp → VK → Prop := fun x xs H Q => xs.length = n ∧ rMet C m x xs H Q
theorem mtN {id : String} {m : M} {n : Nat} (h : MtR X id (rMet C m)) : MtR X id (rMetN C m n) := fun pins s σ H x xs v us Q I rx rxs q => h pins s σ H x xs v us Q I rx rxs q.2
theorem mt_popN {n : Nat} : MtR X "list.pop" (rMetN C .pop n) := fun pins s σ H x xs v us Q I rx rxs q => by
  obtain ⟨hn, q⟩ := q
  match xs, hn, rxs, q with
  | [], _, rxs, q => exact mt_popV0 pins s σ H x [] v us Q I rx rxs ⟨rfl, q⟩
  | [y], _, rxs, q => exact mt_popV1 pins s σ H x [y] v us Q I rx rxs ⟨⟨y, rfl⟩, q⟩
  | _ :: _ :: _, _, rxs, q =>
    exfalso
    obtain ⟨S, F0, H0, F, σ2, ρ, r0, rs, K, O, hr0, hrs, l0, ls, hv, g⟩ := q
    have l := rreps_len hrs
    unfold vMet at hv
    split at hv <;> first | (rename_i hm _; cases hm; done) | (rename_i hm; cases hm; done) | (simp at l; done) | exact hv.elim
theorem dic_ty {F H : Hp} {S : SG} {ks : List L2.Key} {ds : List D} {v : V} (h : View C S F H (.dicK ks ds) v) : tyV X.K "dict" v H := by
  obtain ⟨a, vs, rfl, q, l, r⟩ := h.dicK
  exact .inr (.inr (.inl ⟨rfl, .inl ⟨_, q⟩⟩))
theorem dicT_ty {F H : Hp} {S : SG} {ks : List (List L2.Key)} {ds : List D} {v : V} (h : View C S F H (.dicT ks ds) v) : tyV X.K "dict" v H := by
  obtain ⟨a, vs, rfl, q, l, r⟩ := h.dicT
  exact .inr (.inr (.inl ⟨rfl, .inr ⟨_, q⟩⟩))
theorem str_ty {F H : Hp} {S : SG} {s : Str} {v : V} (h : View C S F H (.str s) v) : tyV X.K "str" v H := by
  cases h.str
  exact rfl
theorem lst_ty {F H : Hp} {S : SG} {ds : List D} {v : V} (h : View C S F H (.lst ds) v) : tyV X.K "list" v H := by
  obtain ⟨a, vs, rfl, q, r⟩ := h.lst
  exact .inl ⟨rfl, vs, .of q⟩
theorem met_ok (cx : Ctx C Γ X cc W) {name : Str} {m : M} {n : Nat} {d : D} {v : V} {S : SG} {F H : Hp} {P : Prop} (h : mNames.lookup name = some m) (hv : View C S F H d v) (hr : recv m d P) : MetOk X name (rMetN C m n) v H ∧ P := by
  have : (name, m) ∈ mNames := by
    have := List.lookup_eq_some_iff.mp h
    obtain ⟨l1, l2, e, _⟩ := this
    rw [e]
    simp
  unfold mNames at this
  simp only [List.mem_cons, Prod.mk.injEq, List.not_mem_nil, or_false] at this
  rcases this with ⟨rfl, rfl⟩ | ⟨rfl, rfl⟩ | ⟨rfl, rfl⟩ | ⟨rfl, rfl⟩ | ⟨rfl, rfl⟩ | ⟨rfl, rfl⟩ | ⟨rfl, rfl⟩ | ⟨rfl, rfl⟩ | ⟨rfl, rfl⟩ | ⟨rfl, rfl⟩ | ⟨rfl, rfl⟩ | ⟨rfl, rfl⟩ | ⟨rfl, rfl⟩ | ⟨rfl, rfl⟩ | ⟨rfl, rfl⟩ | ⟨rfl, rfl⟩
  · cases d <;> first | exact hr.elim | skip
    exact ⟨⟨"list", "list.append", PySem.F.plainAttrs_list, PySem.F.slot_list_append, PySem.F.type_list_append, mtN mt_appendV, lst_ty hv⟩, hr⟩
  · cases d <;> first | exact hr.elim | skip
    exact ⟨⟨"list", "list.pop", PySem.F.plainAttrs_list, PySem.F.slot_list_pop, PySem.F.type_list_pop, mt_popN, lst_ty hv⟩, hr⟩
  · cases d <;> first | exact hr.elim | skip
    exact ⟨⟨"list", "list.extend", PySem.F.plainAttrs_list, PySem.F.slot_list_extend, PySem.F.type_list_extend, mtN mt_extendV, lst_ty hv⟩, hr⟩
  · cases d <;> first | exact hr.elim | skip
    exact ⟨⟨"list", "list.insert", PySem.F.plainAttrs_list, PySem.F.slot_list_insert, PySem.F.type_list_insert, mtN mt_insertV, lst_ty hv⟩, hr⟩
  · cases d <;> first | exact hr.elim | skip
    exact ⟨⟨"list", "list.index", PySem.F.plainAttrs_list, PySem.F.slot_list_index, PySem.F.type_list_index, mtN (mt_indexV cx.K), lst_ty hv⟩, hr⟩
  · cases d <;> first | exact hr.elim | skip
    exact ⟨⟨"list", "list.reverse", PySem.F.plainAttrs_list, PySem.F.slot_list_reverse, PySem.F.type_list_reverse, mtN mt_reverseV, lst_ty hv⟩, hr⟩
  · cases d <;> first | exact hr.elim | skip
    · exact ⟨⟨"dict", "dict.get", PySem.F.plainAttrs_dict, PySem.F.slot_dict_get, PySem.F.type_dict_get, mtN (mt_getV cx.un), dic_ty hv⟩, hr⟩
    · exact ⟨⟨"dict", "dict.get", PySem.F.plainAttrs_dict, PySem.F.slot_dict_get, PySem.F.type_dict_get, mtN (mt_getV cx.un), dicT_ty hv⟩, hr⟩
  · cases d <;> first | exact hr.elim | skip
    exact ⟨⟨"str", "str.upper", PySem.F.plainAttrs_str, PySem.F.slot_str_upper, PySem.F.type_str_upper, mtN mt_upperV, str_ty hv⟩, hr⟩
  · cases d <;> first | exact hr.elim | skip
    exact ⟨⟨"str", "str.isalpha", PySem.F.plainAttrs_str, PySem.F.slot_str_isalpha, PySem.F.type_str_isalpha, mtN mt_isalphaV, str_ty hv⟩, hr⟩
  · cases d <;> first | exact hr.elim | skip
    exact ⟨⟨"str", "str.isdigit", PySem.F.plainAttrs_str, PySem.F.slot_str_isdigit, PySem.F.type_str_isdigit, mtN mt_isdigitV, str_ty hv⟩, hr⟩
  · cases d <;> first | exact hr.elim | skip
    exact ⟨⟨"str", "str.isalnum", PySem.F.plainAttrs_str, PySem.F.slot_str_isalnum, PySem.F.type_str_isalnum, mtN mt_isalnumV, str_ty hv⟩, hr⟩
  · cases d <;> first | exact hr.elim | skip
    exact ⟨⟨"str", "str.join", PySem.F.plainAttrs_str, PySem.F.slot_str_join, PySem.F.type_str_join, mtN mt_joinV, str_ty hv⟩, hr⟩
  · cases d <;> first | exact hr.elim | skip
    exact ⟨⟨"str", "str.startswith", PySem.F.plainAttrs_str, PySem.F.slot_str_startswith, PySem.F.type_str_startswith, mtN mt_startswithV, str_ty hv⟩, hr⟩
  · cases d <;> first | exact hr.elim | skip
    exact ⟨⟨"str", "str.count", PySem.F.plainAttrs_str, PySem.F.slot_str_count, PySem.F.type_str_count, mtN mt_countV, str_ty hv⟩, hr⟩
  · cases d <;> first | exact hr.elim | skip
    exact ⟨⟨"str", "str.split", PySem.F.plainAttrs_str, PySem.F.slot_str_split, PySem.F.type_str_split, mtN mt_splitV, str_ty hv⟩, hr⟩
  · cases d <;> first | exact hr.elim | skip
    exact ⟨⟨"str", "str.partition", PySem.F.plainAttrs_str, PySem.F.slot_str_partition, PySem.F.type_str_partition, mtN mt_partitionV, str_ty hv⟩, hr⟩
theorem few {es : List Expr} {env : PySem.Env} {pos : Pos} (h : noStars es = true) (hl : es.length ≤ 20) : ((backTo pos (starEach es env)).all (fun x => !x.1) && (backToKw pos (keywordEach [] env)).all (fun x => x.1.isSome)
      && decide (es.length + ([] : List Keyword).length + (if ([] : List Keyword).isEmpty then 0 else 1) < 30)) = true := by
  have h1 : (backTo pos (starEach es env)).any (·.1) = false := by rw [back_any]; exact star_plain h
  have h2 : (backTo pos (starEach es env)).all (fun x => !x.1) = true := by
    rw [List.all_eq_true]
    intro x hx
    have := List.any_eq_false.mp h1 x hx
    simpa using this
  rw [h2]
  have h3 : (backToKw pos (keywordEach [] env)).all (fun x => x.1.isSome) = true := rfl
  rw [h3]
  have h4 : es.length + ([] : List Keyword).length + (if ([] : List Keyword).isEmpty then 0 else 1) < 30 := by
    show es.length + 0 + 0 < 30
    omega
  rw [decide_eq_true h4] <;> rfl
theorem met_core {W : WP} {m : M} {S : SG} {F0 H0 F H F1 H1 F2 H2 : Hp} {σ : L2.St} {ρ ρ1 ρ2 : En} {K : EK} {Q : VK} {r1 : R} {v1 : V} {rs : List R} {vs : List V} (g : Cont C S F0 H0 σ ρ F H K Q) (t1 : Tr S ρ ρ1 σ F H F1 H1) (q1 : RRep C S H0 F1 H1 σ ρ1 r1 v1)
    (O2 : OK C S F0 H0 F2 H2 σ ρ2) (t2 : Tr S ρ1 ρ2 σ F1 H1 F2 H2) (q2 : RReps C S H0 F2 H2 σ ρ2 rs vs) (hk : r1.lv ρ2 (lvs rs ρ2 (vMet m r1 rs ρ2 K))) : rMetN C m rs.length v1 vs H2 Q := by
  obtain ⟨l1, hk⟩ := lv_iff.mp hk
  obtain ⟨lv, hk⟩ := lvs_iff.mp hk
  exact ⟨rreps_len q2, S, F0, H0, F2, σ, ρ2, r1, rs, K, O2, q1.tr t2, q2, l1, lv, hk, fun r ρ' v F' H' O' t' q' f' hk' => g r ρ' v F' H' O' ((t1.trans t2).trans t') q' f' hk'⟩
theorem s_met (cx : Ctx C Γ X cc W) {f : Expr → VE} (h : ∀ e, PE X e (tE C Γ W (f e))) {o : Expr} {name : Str} {m : M} {args : List Expr} {ap cp : Pos} (hb : attributeBase o name X.env (eval o X.env) = eval o X.env) (hm : mNames.lookup name = some m) (hs : noStars args = true) (hl : args.length ≤ 20) (hline : (ap.endLine == cp.line) = true) :
    PE X (.Call (.Attribute o name ap) args [] cp) (tE C Γ W (.met m (f o) (mapE f args))) := by
  cases args with
  | nil =>
    refine pe_imp (pe_bmU0 (r := rMetN C m 0) (h o) hb hline) ?_
    rintro σ H Q ⟨S, F0, H0, F, ρ, K, E, O, hw, hx, g⟩
    unfold wE at hw
    refine ⟨S, F0, H0, F, ρ, _, E, O, hw, hx, fun r1 ρ1 v1 F1 H1 O1 t1 q1 f1 hw1 => ?_⟩
    obtain ⟨w1, _⟩ := view_of O1 q1 f1.lv
    obtain ⟨ok, hw1⟩ := met_ok cx (n := 0) hm w1 hw1
    unfold mapE wEs at hw1
    exact ⟨ok, met_core (W := W) (rs := []) g t1 q1 O1 Tr.refl rfl hw1⟩
  | cons e es =>
    have hs' := hs
    unfold noStars at hs'
    rw [List.all_cons, Bool.and_eq_true] at hs'
    refine pe_imp (pe_bmU (r := rMetN C m (e :: es).length) (h o) (s_args h hs) hb (few hs hl) hline (star_cons (by simpa using hs'.1)) (by rw [back_any]; exact star_plain hs'.2)) ?_
    rintro σ H Q ⟨S, F0, H0, F, ρ, K, E, O, hw, hx, g⟩
    unfold wE at hw
    refine ⟨S, F0, H0, F, ρ, _, E, O, hw, hx, fun r1 ρ1 v1 F1 H1 O1 t1 q1 f1 hw1 => ?_⟩
    obtain ⟨w1, _⟩ := view_of O1 q1 f1.lv
    obtain ⟨ok, hw1⟩ := met_ok cx (n := (e :: es).length) hm w1 hw1
    refine ⟨ok, S, F0, H0, F1, ρ1, _, E, O1, hw1, hx, fun rs ρ2 vs F2 H2 O2 t2 q2 l2 hk => ?_⟩
    have := met_core (W := W) g t1 q1 O2 t2 q2 hk
    rw [l2, map_len] at this
    exact this

/-! ### list(range(..)) -/
theorem reps_rng {S : SG} {F : Hp} (lo hi : Int) : Reps C S F (rngD lo hi) (rgV lo hi) := Reps.mapL (fun _ => rep_int) _
theorem lrg_fin {S : SG} {F0 H0 F H F1 H1 : Hp} {σ : L2.St} {ρ ρ1 : En} {K : EK} {Q : VK} {lo n : Int} (g : Cont C S F0 H0 σ ρ F H K Q) (O1 : OK C S F0 H0 F1 H1 σ ρ1) (t1 : Tr S ρ ρ1 σ F H F1 H1) (hb : 0 ≤ lo ∧ lo ≤ lim ∧ 0 ≤ n ∧ n ≤ lim) (hk : K (.tmp (.lst (rngD lo n))) ρ1) :
    RgOk lo n ∧ ∀ q, H1 q = none → Q (.ref q) (upd H1 q (.lst (rgV lo n))) := by
  have e : (lim : Int) = 1000000 := rfl
  obtain ⟨h1, h2, h3, h4⟩ := hb
  refine ⟨.of_le h1 (by omega) (by omega) h3, fun p hp => ?_⟩
  have nn := O1.new hp
  exact g (.tmp (.lst (rngD lo n))) ρ1 _ _ _ (O1.newO hp _) (t1.trans (Tr.newO hp _)) ⟨p, rfl, nn.1, nn.2.1, O1.noslot hp, _, upd_same, _, rfl, reps_rng lo n⟩ (fun b e => by cases e; exact nn.2.2) hk
theorem s_lrg1 (cx : Ctx C Γ X cc W) {a : Expr} {va : VE} {p p2 pos pos2 : Pos} (hcold : cc.hot = false) (h1 : cc.free "list" = true) (h2 : cc.free "range" = true) (hs : isStar a = false) (ha : PE X a (tE C Γ W va)) : PE X (.Call (.Name "list" p) [.Call (.Name "range" p2) [a] [] pos2] [] pos) (tE C Γ W (.lrg .none va)) := by
  obtain ⟨g1, g2, g3⟩ := CC.free_ok h1
  obtain ⟨u1, u2, u3⟩ := CC.free_ok h2
  refine pe_imp (pe_listRg (cx.cold hcold).1 (cx.glob g1) (cx.blt _ g2) (prg_1 (cx.glob u1) (cx.blt _ u2) ha (star_cons hs)) rfl) ?_
  rintro σ H Q ⟨S, F0, H0, F, ρ, K, E, O, hw, hx, g⟩
  unfold wE wO at hw
  refine ⟨S, F0, H0, F, ρ, _, E, O, hw, hx, fun r1 ρ1 v1 F1 H1 O1 t1 q1 f1 hw1 => ?_⟩
  obtain ⟨n, e, hb, hk⟩ := hw1
  obtain ⟨w1, _⟩ := view_of O1 q1 f1.lv
  exact ⟨n, w1.asInt e, lrg_fin g O1 t1 hb hk⟩
theorem s_lrg2 (cx : Ctx C Γ X cc W) {a b : Expr} {va vb : VE} {p p2 pos pos2 : Pos} (hcold : cc.hot = false) (h1 : cc.free "list" = true) (h2 : cc.free "range" = true) (hs : isStar a = false) (hs2 : isStar b = false) (ha : PE X a (tE C Γ W va)) (hb : PE X b (tE C Γ W vb)) :
    PE X (.Call (.Name "list" p) [.Call (.Name "range" p2) [a, b] [] pos2] [] pos) (tE C Γ W (.lrg (.some va) vb)) := by
  obtain ⟨g1, g2, g3⟩ := CC.free_ok h1
  obtain ⟨u1, u2, u3⟩ := CC.free_ok h2
  refine pe_imp (pe_listRg (cx.cold hcold).1 (cx.glob g1) (cx.blt _ g2) (prg_2 (cx.glob u1) (cx.blt _ u2) ha hb (star_cons hs) (star_cons hs2) (by rw [back_any, star_cons hs2]; rfl)) rfl) ?_
  rintro σ H Q ⟨S, F0, H0, F, ρ, K, E, O, hw, hx, g⟩
  unfold wE wO at hw
  refine ⟨S, F0, H0, F, ρ, _, E, O, hw, hx, fun r1 ρ1 v1 F1 H1 O1 t1 q1 f1 hw1 => ?_⟩
  obtain ⟨i, e1, hw1⟩ := hw1
  obtain ⟨w1, _⟩ := view_of O1 q1 f1.lv
  refine ⟨S, F0, H0, F1, ρ1, _, E, O1, hw1, hx, fun r2 ρ2 v2 F2 H2 O2 t2 q2 f2 hw2 => ?_⟩
  obtain ⟨n, e, hb, hk⟩ := hw2
  obtain ⟨w2, _⟩ := view_of O2 q2 f2.lv
  exact ⟨i, n, w1.asInt e1, w2.asInt e, lrg_fin g O2 (t1.trans t2) hb hk⟩

/-! ### targets -/
section
variable {S : SG} {F0 H0 F H : Hp} {σ : L2.St} {ρ : En} {d : D} {v : V}
theorem get_lt {α : Type} {l : List α} {i : Nat} {x : α} (h : l[i]? = some x) : i < l.length := (List.getElem?_eq_some_iff.mp h).1
theorem OK.setVal (O : OK C S F0 H0 F H σ ρ) (i : Nat) (r : Rep C S F d v) : OK C S F0 H0 F H (σ.set i (some v)) (ρ.set i (.val d)) where
  sub := O.sub
  fr := O.fr
  p0 := O.p0
  f0 := O.f0
  fn := O.fn
  len := by rw [List.length_set, List.length_set]; exact O.len
  val := fun j d' h => by
    rcases get_set h with ⟨hj, z⟩ | ⟨hj, z⟩
    · cases z
      subst hj
      have hl : j < ρ.length := by simpa using get_lt h
      exact ⟨v, List.getElem?_set_self (by rw [← O.len]; exact hl), r⟩
    · obtain ⟨w, e, rw1⟩ := O.val j d' z
      exact ⟨w, by rw [List.getElem?_set_ne (Ne.symm hj)]; exact e, rw1⟩
  own := fun j d' h => by
    rcases get_set h with ⟨_, z⟩ | ⟨hj, z⟩
    · cases z
    · obtain ⟨a, e, k⟩ := O.own j d' z
      exact ⟨a, by rw [List.getElem?_set_ne (Ne.symm hj)]; exact e, k⟩
  dis := fun j k d' e' b h1 h2 s1 s2 => by
    rcases get_set h1 with ⟨_, z⟩ | ⟨hj, z⟩
    · cases z
    · rcases get_set h2 with ⟨_, z2⟩ | ⟨hk, z2⟩
      · cases z2
      · rw [List.getElem?_set_ne (Ne.symm hj)] at s1
        rw [List.getElem?_set_ne (Ne.symm hk)] at s2
        exact O.dis j k d' e' b z z2 s1 s2
  sto := O.sto
theorem OK.setTmp {a : Addr} {d0 : D} {ho : HO} (O : OK C S F0 H0 F H σ ρ) (i : Nat) (h0 : H0 a = none) (hp : a ≠ S.p) (hf : F a = none) (hn : NoSlot σ ρ a) (z : H a = some ho) (r : Top C S F d0 ho) : OK C S F0 H0 F H (σ.set i (some (.ref a))) (ρ.set i (.own d0)) where
  sub := O.sub
  fr := O.fr
  p0 := O.p0
  f0 := O.f0
  fn := O.fn
  len := by rw [List.length_set, List.length_set]; exact O.len
  val := fun j d' h => by
    rcases get_set h with ⟨hj, z⟩ | ⟨hj, z⟩
    · cases z
    · obtain ⟨w, e, rw1⟩ := O.val j d' z
      exact ⟨w, by rw [List.getElem?_set_ne (Ne.symm hj)]; exact e, rw1⟩
  own := fun j d' h => by
    rcases get_set h with ⟨hj, z2⟩ | ⟨hj, z2⟩
    · cases z2
      subst hj
      have hl : j < ρ.length := by simpa using get_lt h
      exact ⟨a, List.getElem?_set_self (by rw [← O.len]; exact hl), h0, hf, hp, ho, z, r⟩
    · obtain ⟨b, e, k⟩ := O.own j d' z2
      exact ⟨b, by rw [List.getElem?_set_ne (Ne.symm hj)]; exact e, k⟩
  dis := fun j k d' e' b h1 h2 s1 s2 => by
    rcases get_set h1 with ⟨hj, z1⟩ | ⟨hj, z1⟩
    · rcases get_set h2 with ⟨hk, z2⟩ | ⟨hk, z2⟩
      · rw [hj, hk]
      · subst hj
        have hl : j < ρ.length := by simpa using get_lt h1
        rw [List.getElem?_set_self (by rw [← O.len]; exact hl)] at s1
        cases s1
        rw [List.getElem?_set_ne (Ne.symm hk)] at s2
        exact absurd s2 (hn k e' z2)
    · rcases get_set h2 with ⟨hk, z2⟩ | ⟨hk, z2⟩
      · subst hk
        have hl : k < ρ.length := by simpa using get_lt h2
        rw [List.getElem?_set_self (by rw [← O.len]; exact hl)] at s2
        cases s2
        rw [List.getElem?_set_ne (Ne.symm hj)] at s1
        exact absurd s1 (hn j d' z1)
      · rw [List.getElem?_set_ne (Ne.symm hj)] at s1
        rw [List.getElem?_set_ne (Ne.symm hk)] at s2
        exact O.dis j k d' e' b z1 z2 s1 s2
  sto := O.sto
/-- a result is stored in a slot -/
theorem OK.put {r : R} (O : OK C S F0 H0 F H σ ρ) (i : Nat) (q : RRep C S H0 F H σ ρ r v) (f : RFresh F ρ r v) : ∃ F', OK C S F0 H0 F' H (σ.set i (some v)) (VL.put i r ρ) ∧ Sub F F' := by
  cases r with
  | val d => exact ⟨F, O.setVal i q, Sub.refl F⟩
  | tmp d =>
    obtain ⟨a, e, h0, hp, n, o, z, r⟩ := q
    subst e
    exact ⟨F, O.setTmp i h0 hp (f a rfl) n z r, Sub.refl F⟩
  | var j d =>
    obtain ⟨F', O', t, r, _⟩ := freeze (P := True) O q f.lv
    exact ⟨F', O'.setVal i r, t.f⟩
end
/-- the reading of a target: which slots it may change -/
def tG (C : CT) (t : VG) : TG := fun v σ H Q => ∃ (S : SG) (F0 H0 F : Hp) (ρ : En) (r : R) (K : En → Prop), OK C S F0 H0 F H σ ρ ∧ RRep C S H0 F H σ ρ r v ∧ RFresh F ρ r v ∧ wG t r ρ K ∧
  ∀ σ' ρ' F', OK C S F0 H0 F' H σ' ρ' → Sub F F' → σ'.length = σ.length → (∀ j, j ∉ t.slots → σ'[j]? = σ[j]?) → (∀ d0, r = .val d0 → ∀ (j : Nat) d, ρ'[j]? = some (.own d) → ρ[j]? = some (.own d) ∧ σ'[j]? = σ[j]?) → K ρ' → Q σ' H
def tGs (C : CT) (t : VGs) : TGs := fun vs σ H Q => ∃ (S : SG) (F0 H0 F : Hp) (ρ : En) (ds : List D) (K : En → Prop), OK C S F0 H0 F H σ ρ ∧ Reps C S F ds vs ∧ wGs t ds ρ K ∧
  ∀ σ' ρ' F', OK C S F0 H0 F' H σ' ρ' → Sub F F' → σ'.length = σ.length → (∀ j, j ∉ t.slots → σ'[j]? = σ[j]?) → (∀ (j : Nat) d, ρ'[j]? = some (.own d) → ρ[j]? = some (.own d) ∧ σ'[j]? = σ[j]?) → K ρ' → Q σ' H
theorem pg_imp {e : Expr} {t t' : TG} (h : PG X e t) (i : ∀ v σ H Q, t' v σ H Q → t v σ H Q) : PG X e t' := ⟨fun pins s σ H v u Q I r q => h.run pins s σ H v u Q I r (i v σ H Q q)⟩
theorem pgs_imp {e : List Expr} {t t' : TGs} (h : PGs X e t) (i : ∀ v σ H Q, t' v σ H Q → t v σ H Q) : PGs X e t' := ⟨fun pins s σ H v u Q I r q => h.run pins s σ H v u Q I r (i v σ H Q q)⟩
theorem pg_bad {e : Expr} : PG X e (tG C .bad) := ⟨fun pins s σ H v u Q I r q => by
  obtain ⟨_, _, _, _, _, _, _, _, _, _, z, _⟩ := q
  unfold wG at z
  exact z.elim⟩
theorem asg_map {env : PySem.Env} : ∀ {es : List Expr}, noStars es = true → assignEach es env = es.map fun e => (false, assign e env)
  | [], _ => rfl
  | e :: es, h => by
    unfold noStars at h
    rw [List.all_cons, Bool.and_eq_true] at h
    have e1 : assignEach (e :: es) env = (false, assign e env) :: assignEach es env := by
      have h1 : isStar e = false := by simpa using h.1
      cases e <;> first | rfl | cases h1
    rw [e1, asg_map (es := es) h.2] <;> rfl
theorem gName_imp {i : Nat} (v : V) (σ : L2.St) (H : Hp) (Q : L2.St → Hp → Prop) (h : tG C (.nm i) v σ H Q) : gName i v σ H Q := by
  obtain ⟨S, F0, H0, F, ρ, r, K, O, q, f, hw, g⟩ := h
  unfold wG at hw
  obtain ⟨F', O', s⟩ := O.put i q f
  refine g _ _ F' O' s (by rw [List.length_set]) (fun j hj => ?_) (fun d0 hr j d hd => ?_) hw
  · have : i ≠ j := fun e => hj (by subst e; unfold VG.slots; simp)
    rw [List.getElem?_set_ne this]
  · subst hr
    rcases get_set (show (ρ.set i (.val d0))[j]? = some (.own d) from hd) with ⟨_, z⟩ | ⟨hj, z⟩
    · cases z
    · exact ⟨z, by rw [List.getElem?_set_ne (Ne.symm hj)]⟩
theorem s_gs {f : Expr → VG} (h : ∀ e, PG X e (tG C (f e))) : ∀ {es : List Expr}, noStars es = true → PGs X es (tGs C (mapG f es))
  | [], _ => by
    refine pgs_imp pgs_nil ?_
    rintro vs σ H Q ⟨S, F0, H0, F, ρ, ds, K, O, q, hw, g⟩
    unfold mapG at hw
    cases ds with
    | nil =>
      unfold wGs at hw
      exact ⟨q, g σ ρ F O (Sub.refl F) rfl (fun _ _ => rfl) (fun _ _ z => ⟨z, rfl⟩) hw⟩
    | cons d ds => unfold wGs at hw; exact hw.elim
  | e :: es, hs => by
    have hs' := hs
    unfold noStars at hs'
    rw [List.all_cons, Bool.and_eq_true] at hs'
    have hes : noStars es = true := hs'.2
    refine pgs_imp (pgs_cons (h e) (s_gs h hes) (by rw [asg_map hs, asg_map hes]; simp)) ?_
    rintro vs σ H Q ⟨S, F0, H0, F, ρ, ds, K, O, q, hw, g⟩
    unfold mapG at hw
    cases ds with
    | nil => unfold wGs at hw; exact hw.elim
    | cons d ds =>
      unfold wGs at hw
      unfold Reps at q
      obtain ⟨v, us, e1, r1, r2⟩ := q
      refine ⟨v, us, e1, S, F0, H0, F, ρ, .val d, _, O, r1, trivial, hw, fun σ1 ρ1 F1 O1 s1 l1 k1 w1 hk => ?_⟩
      refine ⟨S, F0, H0, F1, ρ1, ds, K, O1, r2.mono s1, hk, fun σ2 ρ2 F2 O2 s2 l2 k2 w2 hk2 => g σ2 ρ2 F2 O2 (s1.trans s2) (l2.trans l1) (fun j hj => ?_) (fun j d hd => ?_) hk2⟩
      rotate_left
      · obtain ⟨z1, z2⟩ := w2 j d hd
        obtain ⟨y1, y2⟩ := w1 _ rfl j d z1
        exact ⟨y1, z2.trans y2⟩
      have hj' : j ∉ (f e).slots ∧ j ∉ (mapG f es).slots := by
        constructor <;> (intro z; apply hj; show j ∈ (f e).slots ++ (mapG f es).slots; simp [z])
      rw [k2 j hj'.2, k1 j hj'.1]
theorem mapG_len {f : Expr → VG} : ∀ es : List Expr, (mapG f es).len = es.length
  | [] => rfl
  | e :: es => by
    show (mapG f es).len + 1 = _
    rw [mapG_len es, List.length_cons]
theorem s_g (cx : Ctx C Γ X cc W) : ∀ (n : Nat) (e : Expr), PG X e (tG C (cG n cc e))
  | 0, e => by unfold cG; exact pg_bad
  | n + 1, e => by
    cases e with
    | Name x pos =>
      unfold cG
      split
      · rename_i hp
        split
        · rename_i i hi
          have hl : Loc X.env.scope x ∧ (X.fn x = true ∨ X.env.scope.names.lookup x = some .local) := by
            unfold CC.put CC.kind at hp
            rw [cx.sc, cx.fn]
            split at hp
            · exact ⟨.inl ‹_›, .inr ‹_›⟩
            · exact ⟨.inr ‹_›, .inl hp⟩
            · cases hp
          exact pg_imp (pg_name cx.nd (cx.slot hi) hl.1 hl.2) gName_imp
        · exact pg_bad
      · exact pg_bad
    | Tuple es k pos =>
      unfold cG
      split
      · rename_i hs
        rw [Bool.and_eq_true, Bool.not_eq_true'] at hs
        have hcold := hs.1
        have hs' : noStars es = true := hs.2
        have hm := asg_map (env := X.env) hs'
        refine pg_imp (pg_tup (n := es.length) (cx.cold hcold).1 (s_gs (s_g cx n) hs') (by rw [hm, List.length_map]) (by rw [hm, List.findIdx?_eq_none_iff]; simp)) ?_
        rintro v σ H Q ⟨S, F0, H0, F, ρ, r, K, O, q, f, hw, g⟩
        unfold wG at hw
        split at hw
        · rename_i ds
          have q' : Rep C S F (.tup ds) v := q
          unfold Rep at q'
          obtain ⟨a, vs, e1, q1, r1⟩ := q'
          refine ⟨a, vs, e1, .inl (.inl (O.sub _ _ q1)), ?_, S, F0, H0, F, ρ, ds, K, O, r1, hw, fun σ' ρ' F' O' s' l' k' w' hk => g σ' ρ' F' O' s' l' k' (fun _ _ => w') hk⟩
          rw [r1.len, (wGs_ex _ ds ρ K hw).2, mapG_len]
        · exact hw.elim
      · exact pg_bad
    | _ => unfold cG; exact pg_bad
end
end VL
set_option maxHeartbeats 4000000
/-! VLga: enumerate over tuples, zip of two lists or two tuples. -/
namespace VL
open PySem PySem.Spec PyProof.Rows L2
theorem meets_enum1B {v : Value} {o : Obj} {H : Heap → Prop} (B : Begins v o H) :
    Meets (Builtin.«enumerate.__new__» ⟨[.type "enumerate", v], []⟩) (fun _ R s => H s.heap ∧
      R (.ok (.ret (.ref (s.heap.push o).objs.size))) { s with heap := (s.heap.push o).push { cls := .type "enumerate", data := .fields #[.none, .bool false, .ref s.heap.objs.size, rawInt 0, .none, .none] } }) :=
  .of_wp fun prog w A R s h => by
    obtain ⟨hp, g, d, tk, os⟩ := s; obtain ⟨h1, h⟩ := h
    have hsub := sub_enumerate
    have q1 : ∀ {A' : Around} {E : Value → Shared → Prop} {Q : Value → Shared → Prop}, Q (.ref hp.objs.size) ⟨hp.push o, g, d, tk, os⟩ → wpAny (model prog w) A' (pyIter v) Q E ⟨hp, g, d, tk, os⟩ :=
      fun q => B.iter prog w _ _ ⟨hp, g, d, tk, os⟩ _ h1 q
    wp_walk using q1
    refine wpAny_stack_any fun st => wpAny_pure ?_
    split
    · rename_i c _ _ _ _ _
      cases (c == Value.type "enumerate")
      · wp_walk using q1
        exact ⟨_, rfl, h⟩
      · wp_walk using q1
        exact ⟨_, rfl, h⟩
    · wp_walk using q1
      exact ⟨_, rfl, h⟩
section
variable {prog : Program} {w : World} {A : Around} {E : Value → Shared → Prop} {s : Shared}
theorem enum1_begins {v : Value} {o : Obj} {H : Heap → Prop} {Q : Value → Shared → Prop} (B : Begins v o H) (h1 : H s.heap)
    (h : ∀ h', IsEnum h' (s.heap.objs.size + 1) s.heap.objs.size 0 .none → h'.get? s.heap.objs.size = some o → h'.objs.size = s.heap.objs.size + 2 →
      (∀ b o, s.heap.get? b = some o → h'.get? b = some o) → Q (.ref (s.heap.objs.size + 1)) { s with heap := h' }) :
    wpAny (model prog w) A (call (.type "enumerate") [v]) Q E s := by
  refine callType_new F.called_enumerate (by decide) (F.typeCall_enumerate_1 _) (F.newCall_enumerate_1 _) (fun obj => F.args_object_init_2 obj _) F.entry_enumerate_new
    (meets_enum1B B) ⟨h1, ?_⟩
  have hz : (s.heap.push o).objs.size = s.heap.objs.size + 1 := Heap.size_push ..
  show _ ∧ _
  rw [hz]
  have he : IsEnum ((s.heap.push o).push { cls := .type "enumerate", data := .fields #[.none, .bool false, .ref s.heap.objs.size, rawInt 0, .none, .none] }) (s.heap.objs.size + 1) s.heap.objs.size 0 .none := by
    have := Heap.get?_push_size (s.heap.push o) (o := { cls := .type "enumerate", data := .fields #[.none, .bool false, .ref s.heap.objs.size, rawInt 0, .none, .none] }) rfl
    rw [hz] at this; exact this
  refine ⟨⟨_, he, rfl⟩, h _ he (Heap.get?_push_of_some _ (Heap.get?_push_size _ B.free)) (by rw [Heap.size_push, hz]) fun b o x => Heap.get?_push_of_some _ (Heap.get?_push_of_some _ x)⟩
end
/-- the tuple at a as it stands at each turn -/
def IteT (K : PySem.W.Frag) (a : Addr) : It :=
  ⟨fun i H => ∃ (xs : List V) (x : V), SqT K H a xs ∧ xs[i]? = some x, fun i H v H' => ∃ T x, v = .ref T ∧ H T = none ∧ H' = upd H T (.tup [.int (i : Nat), x]) ∧ ∀ xs, SqT K H a xs → xs[i]? = some x, fun i H => ∃ xs : List V, SqT K H a xs ∧ xs.length ≤ i⟩
theorem it_ne {h : Heap} {it a : Addr} {i : Nat} {items : Array Value} (hit : h.IsTupleIter it a i) (p : h.IsTuple a items) : a ≠ it := fun e => by
  obtain ⟨o1, e1, c1, _⟩ := hit
  obtain ⟨o2, e2, c2, _⟩ := p
  rw [e, e1] at e2
  cases e2
  rw [c1] at c2
  injection c2 with c3
  exact absurd c3 (by decide)
theorem turn_enumT {P : Program} {w : World} {K : PySem.W.Frag} {elts : List Expr} {kk : Nat} {tpos : Pos} (a e it : Addr) :
    Turn P w K (.Tuple elts kk tpos) (IteT K a) [e, it] e (fun i h => (∃ old, IsEnum h e it ((i : Nat) : Int) old) ∧ h.IsTupleIter it a i ∧ e ≠ it ∧ e ≠ a) where
  mem := by simp
  obj := fun i h st b hb => by
    obtain ⟨⟨old, he⟩, ⟨o, ho, hc, hd⟩, _⟩ := st
    have e' : b = e ∨ b = it := by simpa using hb
    rcases e' with z | z
    · rw [z]; exact ⟨_, he, fun v q => nomatch q⟩
    · rw [z]; exact ⟨o, ho, fun v q => by rw [hd] at q; cases q⟩
  keep := fun i h h' st k => let ⟨⟨old, he⟩, hi, hne⟩ := st; ⟨⟨old, k e (by simp) _ he⟩, hi.at fun o q => k it (by simp) o q, hne⟩
  item := by
    intro X hP hw hK hc i pins s σ H E I hf st hg
    subst hP hw hK
    obtain ⟨⟨old, he⟩, hit, hne, hea⟩ := st
    obtain ⟨xs, x, hq, hx⟩ := hg
    obtain ⟨its, rv, p, hz⟩ := I.tuple hq
    have p' : s.heap.IsTuple a its.toArray := p
    obtain ⟨u, hu, ru⟩ := rv.get hx
    have hel : e < s.heap.objs.size := Heap.lt_size he
    have hil : it < s.heap.objs.size := by obtain ⟨_, q, _⟩ := hit; exact Heap.lt_size q
    have hlt : i < its.toArray.size := by
      rw [List.size_toArray]
      exact (List.getElem?_eq_some_iff.mp hu).1
    refine wpAny_pyNext_enum_itemC (Draws.tuple (A := X.A.in1) (I.ok.hd hc) it a (it_ne hit p') its.toArray) he ⟨hit, p'⟩ hlt hne (by simp only [List.mem_cons, List.not_mem_nil, or_false, not_or]; exact ⟨hne, hea⟩) fun u' h' tk hP ho hst hT hsz hk => ?_
    have eu : u' = u := by
      have h1 : its.toArray[i]? = some u' := hP
      have h2 : its.toArray[i]? = some u := by simpa using hu
      rw [h1] at h2
      exact Option.some.inj h2
    subst eu
    refine ⟨_, rfl, wpAny_letOwnedTupleGo_enum (s := { s with heap := h', toks := tk + 1 }) ho fun h'' he' sb => ?_⟩
    have hT2 : h''.get? s.heap.objs.size = some { cls := .type "tuple", data := .seq #[.int i tk, u'] } := (sb.2 _ (Nat.ne_of_gt hel)).trans hT
    have new : ObjOk X.prog X.w (upd H s.heap.objs.size (.tup [.int (i : Nat), x])) h'' s.heap.objs.size (.tup [.int (i : Nat), x]) :=
      ⟨by show 2 ≤ sizeLine; decide, [.int i tk, u'], .cons ⟨_, rfl⟩ (.cons ru .nil), ⟨_, hT2, rfl, _, rfl⟩⟩
    have I1 : Inv X pins σ (upd H s.heap.objs.size (.tup [.int (i : Nat), x])) { s with heap := h'', toks := tk + 1 } :=
      I.turnedNew (ch := [e, it]) (fun b ob hb q => (sb.2 b (fun z => hb (by simp [z]))).trans (hk b ob (fun z => hb (by simp [z])) (fun z => hb (by simp [z])) q)) hf (Nat.le_refl _) new
    refine ⟨.ref s.heap.objs.size, _, I1, rfl, ⟨_, x, rfl, I.hok.fresh (Nat.le_refl _), rfl, fun ys hy => by rw [I.tuple_inj hy hq]; exact hx⟩, ⟨⟨u', ?_⟩, hst.1.at fun o q => (sb.2 it (Ne.symm hne)).trans q, hne, hea⟩, fun b hb => ?_⟩
    · have e1 : ((i + 1 : Nat) : Int) = (i : Int) + 1 := by omega
      rw [e1]; exact he'
    · have hb' : b < s.heap.objs.size := by
        have e' : b = e ∨ b = it := by simpa using hb
        rcases e' with z | z
        · rw [z]; exact hel
        · rw [z]; exact hil
      rw [upd_ne (Nat.ne_of_lt hb')]
      exact (hf b hb).1
  done := by
    intro X hP hw hK hc i pins s σ H E I hf st hg
    subst hP hw hK
    obtain ⟨⟨old, he⟩, hit, hne, hea⟩ := st
    obtain ⟨xs, hq, hx⟩ := hg
    obtain ⟨its, rv, p, hz⟩ := I.tuple hq
    have p' : s.heap.IsTuple a its.toArray := p
    obtain ⟨f0, f1, f2, f3, f4, f5⟩ := hf it (by simp)
    have hl := rv.length
    by_cases hi : i = its.toArray.size
    · subst hi
      exact wpAny_pyNext_enum_endD (Draws.tuple (A := X.A.in1) (I.ok.hd hc) it a (it_ne hit p') its.toArray) he ⟨hit, p'⟩ fun h' eb => ⟨rfl, I.turned (t' := s.toks) (fun b o hb q => eb b o hb q) f0 f1 f3 f4 f5⟩
    · refine wpAny_pyNext_enum_endD (n := i) (P := fun _ _ => False) (St := fun j h => j = i ∧ h.IsTupleIter it a j ∧ h.IsTuple a its.toArray) (fp := [it, a]) ⟨fun j h st => let ⟨o, ho, _⟩ := st.2.1; ⟨o, ho⟩, fun j h h' st hk => ⟨st.1, st.2.1.at fun o e => hk it (by simp) o e, st.2.2.at fun o e => hk a (by simp) o e⟩, fun j s Q E hj st _ => absurd st.1 (by omega), fun s Q E st hE => wpAny_nextOf_tuple_end (I.ok.hd hc) st.2.1 st.2.2 (by simp; omega) hE⟩ he ⟨rfl, hit, p'⟩ fun h' eb => ⟨rfl, I.turned (t' := s.toks) (fun b o hb q => eb b o hb q) f0 f1 f3 f4 f5⟩
  self := fun A i s Q E st h => let ⟨⟨_, he⟩, _⟩ := st; wpAny_pyIter_enum he h
def iEnumA (K : PySem.W.Frag) (ta : TA) : TI := fun σ H R => ta σ H fun vs H1 => ∃ a xs, vs = [.ref a] ∧ ((SqL K H1 a xs ∧ R (Ite K a) H1) ∨ (SqT K H1 a xs ∧ R (IteT K a) H1))
theorem pi_enumA {X : Cx} {e : Expr} {ta : TA} {p pos tpos : Pos} {elts : List Expr} {kk : Nat} (hg : Gl X "enumerate") (hm : X.mg "enumerate" = none) (ha : PA X [e] ta) (hs : starEach [e] X.env = [(false, eval e X.env)] := by rfl) :
    PI X (.Tuple elts kk tpos) (.Call (.Name "enumerate" p) [e] [] pos) (iEnumA X.K ta) := by
  refine ⟨fun pins s σ H R I h => ?_⟩
  refine Call_ (ld_blt I hg hm boot_enumerate (PyProof.Rows.callWith_type1 (thn (ha.run pos pins s σ H _ I h) fun us s1 ⟨vs, H1, I1, r1, q1⟩ => ?_) hs rfl))
  obtain ⟨a, xs, ex, hq⟩ := q1
  subst ex
  cases r1 with
  | cons r rr =>
    cases rr
    cases r
    rcases hq with ⟨hq, q⟩ | ⟨hq, q⟩
    · obtain ⟨its, rv, p', hz⟩ := I1.list hq
      refine call_enumerate_list p'.isList fun h' he hit hsz hk => wpAny_pyIter_enum he ?_
      have I2 : Inv X pins σ H1 { s1 with heap := h' } := I1.kept (t' := s1.toks) hk
      refine ⟨s1.heap.objs.size + 1, [s1.heap.objs.size + 1, s1.heap.objs.size], _, _, H1, rfl, I2, turn_enum a (s1.heap.objs.size + 1) s1.heap.objs.size, ⟨⟨.none, he⟩, hit, Nat.succ_ne_self _⟩, fun b hb => ?_, q⟩
      have e' : b = s1.heap.objs.size + 1 ∨ b = s1.heap.objs.size := by simpa using hb
      have hle : s1.heap.objs.size ≤ b := by
        rcases e' with z | z
        · rw [z]; exact Nat.le_add_right _ _
        · rw [z]; exact Nat.le_refl _
      exact I1.fpOk hle (I1.hok.fresh hle)
    · obtain ⟨its, rv, p', hz⟩ := I1.tuple hq
      have p2 : s1.heap.IsTuple a its.toArray := p'
      have hal : a < s1.heap.objs.size := by obtain ⟨_, q, _⟩ := p2; exact Heap.lt_size q
      refine enum1_begins (begins_tuple a its.toArray) p2 fun h' he hit hsz hk => wpAny_pyIter_enum he ?_
      have I2 : Inv X pins σ H1 { s1 with heap := h' } := I1.kept (t' := s1.toks) hk
      refine ⟨s1.heap.objs.size + 1, [s1.heap.objs.size + 1, s1.heap.objs.size], _, _, H1, rfl, I2, turn_enumT a (s1.heap.objs.size + 1) s1.heap.objs.size, ⟨⟨.none, he⟩, ⟨_, hit, rfl, rfl⟩, Nat.succ_ne_self _, Nat.ne_of_gt (Nat.lt_succ_of_lt hal)⟩, fun b hb => ?_, q⟩
      have e' : b = s1.heap.objs.size + 1 ∨ b = s1.heap.objs.size := by simpa using hb
      have hle : s1.heap.objs.size ≤ b := by
        rcases e' with z | z
        · rw [z]; exact Nat.le_add_right _ _
        · rw [z]; exact Nat.le_refl _
      exact I1.fpOk hle (I1.hok.fresh hle)
end VL
set_option maxHeartbeats 4000000
/-! VLgb: zip of two or three, each a list or a tuple. -/
namespace VL
open PySem PySem.Spec PyProof.Rows L2
/-- a list (false) or a tuple (true) -/
def SqX (k : Bool) (K : PySem.W.Frag) (H : Hp) (a : Addr) (xs : List V) : Prop := match k with
  | false => SqL K H a xs
  | true => SqT K H a xs
def ItX' (k : Bool) (h : Heap) (it a : Addr) (i : Nat) : Prop := match k with
  | false => h.IsListIter it a i
  | true => h.IsTupleIter it a i
def SqH (k : Bool) (h : Heap) (a : Addr) (xs : Array Value) : Prop := match k with
  | false => h.IsList a xs
  | true => h.IsTuple a xs
def ObX (k : Bool) (a : Addr) : Obj := match k with
  | false => { cls := .type "list_iterator", data := .fields #[.ref a, .int 0 0] }
  | true => { cls := .type "tuple_iterator", data := .fields #[.ref a, .int 0 0] }
def HOx (k : Bool) (vs : List V) : HO := match k with
  | false => .lst vs
  | true => .tup vs
theorem SqX.of {k : Bool} {K : PySem.W.Frag} {H : Hp} {a : Addr} {vs : List V} (h : H a = some (HOx k vs)) : SqX k K H a vs := by
  cases k
  · exact (show SqL K H a vs from SqL.of h)
  · exact .inl (.inl h)
section
variable {X : Cx} {pins : List (Addr × Obj)} {σ : L2.St} {H : Hp} {s : Shared} {a : Addr} {xs ys : List V}
theorem SqX.at {k : Bool} (I : Inv X pins σ H s) (h : SqX k X.K H a xs) : ∃ its : List Value, Vals xs its ∧ SqH k s.heap a its.toArray := by
  cases k
  · obtain ⟨its, r, p, _⟩ := I.list h
    exact ⟨its, r, p.isList⟩
  · obtain ⟨its, r, p, _⟩ := I.tuple h
    exact ⟨its, r, p⟩
theorem SqX.inj {k : Bool} (I : Inv X pins σ H s) (h : SqX k X.K H a xs) (h2 : SqX k X.K H a ys) : xs = ys := by
  cases k
  · exact I.list_inj h h2
  · exact I.tuple_inj h h2
end
theorem SqH.lt {k : Bool} {h : Heap} {a : Addr} {xs : Array Value} (p : SqH k h a xs) : a < h.objs.size := by
  cases k
  · obtain ⟨_, q, _⟩ := (show h.IsList a xs from p); exact Heap.lt_size q
  · obtain ⟨_, q, _⟩ := (show h.IsTuple a xs from p); exact Heap.lt_size q
theorem ItX'.lt {k : Bool} {h : Heap} {it a : Addr} {i : Nat} (p : ItX' k h it a i) : it < h.objs.size := by
  cases k
  · obtain ⟨_, q, _⟩ := (show h.IsListIter it a i from p); exact Heap.lt_size q
  · obtain ⟨_, q, _⟩ := (show h.IsTupleIter it a i from p); exact Heap.lt_size q
theorem ItX'.obj {k : Bool} {h : Heap} {it a : Addr} {i : Nat} (p : ItX' k h it a i) : ∃ o, h.get? it = some o ∧ ∀ v, o.data ≠ .cell v := by
  cases k
  · obtain ⟨o, q, _, d⟩ := (show h.IsListIter it a i from p); exact ⟨o, q, fun v z => by rw [d] at z; cases z⟩
  · obtain ⟨o, q, _, d⟩ := (show h.IsTupleIter it a i from p); exact ⟨o, q, fun v z => by rw [d] at z; cases z⟩
theorem ItX'.keep {k : Bool} {h h' : Heap} {it a : Addr} {i : Nat} (p : ItX' k h it a i) (e : ∀ o, h.get? it = some o → h'.get? it = some o) : ItX' k h' it a i := by
  cases k
  · exact (show h.IsListIter it a i from p).at e
  · exact (show h.IsTupleIter it a i from p).at e
theorem drawsX {prog : Program} {w : World} {A : Around} (k : Bool) (hh : A.handled = none) (it l : Addr) (hne : l ≠ it) (items : Array Value) :
    Draws prog w A it [it, l] items.size (fun i v => items[i]? = some v) (fun i h => ItX' k h it l i ∧ SqH k h l items) := by
  cases k
  · exact Draws.list hh it l hne items
  · exact Draws.tuple hh it l hne items
/-- an iterator at any turn -/
theorem drawsAt {prog : Program} {w : World} {A : Around} (k : Bool) (hh : A.handled = none) (it l : Addr) (hne : l ≠ it) (items : Array Value) {i : Nat} {h : Heap} (hit : ItX' k h it l i) (hl : SqH k h l items) :
    ∃ n P St, Draws prog w A it [it, l] n P St ∧ St i h ∧ i ≤ n ∧ (items.size ≤ i → i = n) := by
  by_cases e : i ≤ items.size
  · exact ⟨_, _, _, drawsX k hh it l hne items, ⟨hit, hl⟩, e, fun _ => by omega⟩
  · refine ⟨i, fun _ _ => False, fun j h => j = i ∧ ItX' k h it l j ∧ SqH k h l items, ⟨fun j h st => let ⟨o, ho, _⟩ := st.2.1.obj; ⟨o, ho⟩, fun j h h' st hk => ⟨st.1, st.2.1.keep fun o e => hk it (by simp) o e, ?_⟩, fun j s Q E hj st _ => absurd st.1 (by omega), fun s Q E st hE => ?_⟩, ⟨rfl, hit, hl⟩, Nat.le_refl _, fun _ => rfl⟩
    · have := st.2.2
      cases k
      · exact (show h.IsList l items from this).at fun o e => hk l (by simp) o e
      · exact (show h.IsTuple l items from this).at fun o e => hk l (by simp) o e
    · cases k
      · exact wpAny_nextOf_list_end hh st.2.1 st.2.2 (by simp; omega) hE
      · exact wpAny_nextOf_tuple_end hh st.2.1 st.2.2 (by simp; omega) hE
theorem beginsX (k : Bool) (l : Addr) (items : Array Value) : Begins (.ref l) (ObX k l) fun h => SqH k h l items := by
  cases k
  · exact begins_list l items
  · exact begins_tuple l items
theorem itx_new {k : Bool} {h : Heap} {it a : Addr} (e : h.get? it = some (ObX k a)) : ItX' k h it a 0 := by
  cases k
  · exact ⟨_, e, rfl, rfl⟩
  · exact ⟨_, e, rfl, rfl⟩
/-- the things at a and b as they stand at each turn, the items in new pairs -/
def ItzG (K : PySem.W.Frag) (k1 k2 : Bool) (a b : Addr) : It :=
  ⟨fun i H => ∃ (xs ys : List V) (x y : V), SqX k1 K H a xs ∧ SqX k2 K H b ys ∧ xs[i]? = some x ∧ ys[i]? = some y,
    fun i H v H' => ∃ T x y, v = .ref T ∧ H T = none ∧ H' = upd H T (.tup [x, y]) ∧ (∀ xs, SqX k1 K H a xs → xs[i]? = some x) ∧ ∀ ys, SqX k2 K H b ys → ys[i]? = some y,
    fun i H => ∃ xs ys : List V, SqX k1 K H a xs ∧ SqX k2 K H b ys ∧ (xs.length ≤ i ∨ ys.length ≤ i)⟩
theorem sep2 {a b z TI TO i1 i2 : Addr} (D : ZipApart z TI TO i1 i2 a b) : ZipSep2 z TI TO i1 i2 [i1, a] [i2, b] where
  TIz := D.TIz
  TOz := D.TOz
  TITO := D.TITO
  TIi1 := D.TIi1
  mem1 := by simp
  zf1 := by simp only [List.mem_cons, List.not_mem_nil, or_false, not_or]; exact ⟨Ne.symm D.i1z, Ne.symm D.l1z⟩
  Tf1 := by simp only [List.mem_cons, List.not_mem_nil, or_false, not_or]; exact ⟨D.TOi1, Ne.symm D.l1TO⟩
  TIi2 := D.TIi2
  mem2 := by simp
  zf2 := by simp only [List.mem_cons, List.not_mem_nil, or_false, not_or]; exact ⟨Ne.symm D.i2z, Ne.symm D.l2z⟩
  Tf2 := by simp only [List.mem_cons, List.not_mem_nil, or_false, not_or]; exact ⟨D.TOi2, Ne.symm D.l2TO⟩
  sep1_2 := by simp only [List.mem_cons, List.not_mem_nil, or_false, not_or]; exact ⟨D.i12, Ne.symm D.l2i1⟩
  sep2_1 := by simp only [List.mem_cons, List.not_mem_nil, or_false, not_or]; exact ⟨Ne.symm D.i12, Ne.symm D.l1i2⟩
theorem turn_zipG {P : Program} {w : World} {K : PySem.W.Frag} {elts : List Expr} {kk : Nat} {tpos : Pos} {k1 k2 : Bool} {a b z TI TO i1 i2 : Addr} (D : ZipApart z TI TO i1 i2 a b) :
    Turn P w K (.Tuple elts kk tpos) (ItzG K k1 k2 a b) [z, TI, TO, i1, i2] z (fun i h => IsZip h z TI TO .none ∧ IsPair h TI (.ref i1) (.ref i2) ∧ (∃ x y, IsPair h TO x y) ∧ ItX' k1 h i1 a i ∧ ItX' k2 h i2 b i) where
  mem := by simp
  obj := fun i h st c hc => by
    obtain ⟨hz, hTI, ⟨x, y, hTO⟩, h1, h2⟩ := st
    have e' : c = z ∨ c = TI ∨ c = TO ∨ c = i1 ∨ c = i2 := by simpa using hc
    rcases e' with q | q | q | q | q
    · rw [q]; exact ⟨_, hz, fun v q => nomatch q⟩
    · rw [q]; exact ⟨_, hTI, fun v q => nomatch q⟩
    · rw [q]; exact ⟨_, hTO, fun v q => nomatch q⟩
    · rw [q]; exact h1.obj
    · rw [q]; exact h2.obj
  keep := fun i h h' st k => by
    obtain ⟨hz, hTI, ⟨x, y, hTO⟩, h1, h2⟩ := st
    exact ⟨k z (by simp) _ hz, k TI (by simp) _ hTI, ⟨x, y, k TO (by simp) _ hTO⟩, h1.keep fun o q => k i1 (by simp) o q, h2.keep fun o q => k i2 (by simp) o q⟩
  item := by
    intro X hP hw hK hc i pins s σ H E I hf st hg
    subst hP hw hK
    obtain ⟨hz, hTI, ⟨x0, y0, hTO⟩, h1, h2⟩ := st
    obtain ⟨xs, ys, x, y, hqx, hqy, hx, hy⟩ := hg
    obtain ⟨its, rv, p⟩ := hqx.at I
    obtain ⟨its2, rv2, p2⟩ := hqy.at I
    obtain ⟨u, hu, ru⟩ := rv.get hx
    obtain ⟨u2, hu2, ru2⟩ := rv2.get hy
    have hzl : z < s.heap.objs.size := Heap.lt_size hz
    have l1 : i < its.toArray.size := by rw [List.size_toArray]; exact (List.getElem?_eq_some_iff.mp hu).1
    have l2 : i < its2.toArray.size := by rw [List.size_toArray]; exact (List.getElem?_eq_some_iff.mp hu2).1
    refine wpAny_pyNext_zipD2_item (sep2 D) (drawsX k1 (A := X.A.in1) (I.ok.hd hc) i1 a D.l1i1 its.toArray) (drawsX k2 (A := X.A.in1) (I.ok.hd hc) i2 b D.l2i2 its2.toArray) hz hTI hTO ⟨h1, p⟩ ⟨h2, p2⟩ l1 l2 fun x1 x2 h' tk e1 e2 z' TO' h1' h2' hT hsz hk => ?_
    have eu : x1 = u := by
      have q1 : its.toArray[i]? = some x1 := e1
      have q2 : its.toArray[i]? = some u := by simpa using hu
      rw [q1] at q2; exact Option.some.inj q2
    have eu2 : x2 = u2 := by
      have q1 : its2.toArray[i]? = some x2 := e2
      have q2 : its2.toArray[i]? = some u2 := by simpa using hu2
      rw [q1] at q2; exact Option.some.inj q2
    subst eu eu2
    refine ⟨_, rfl, wpAny_letOwnedTupleGo_zip (s := { s with heap := h', toks := tk }) z' fun h'' z'' sb => ?_⟩
    have hT2 : h''.get? s.heap.objs.size = some { cls := .type "tuple", data := .seq #[x1, x2] } := (sb.2 _ (Nat.ne_of_gt hzl)).trans hT
    have new : ObjOk X.prog X.w (upd H s.heap.objs.size (.tup [x, y])) h'' s.heap.objs.size (.tup [x, y]) :=
      ⟨by show 2 ≤ sizeLine; decide, [x1, x2], .cons ru (.cons ru2 .nil), ⟨_, hT2, rfl, _, rfl⟩⟩
    have I1 : Inv X pins σ (upd H s.heap.objs.size (.tup [x, y])) { s with heap := h'', toks := tk } :=
      I.turnedNew (t' := tk) (ch := [z, TI, TO, i1, i2]) (fun c o hb q => (sb.2 c (fun q' => hb (by simp [q']))).trans (hk c o (fun q' => hb (by simp [q'])) (fun q' => hb (by simp [q'])) (fun q' => hb (by simp [q'])) (fun q' => hb (by simp [q'])) q)) hf (Nat.le_refl _) new
    refine ⟨.ref s.heap.objs.size, _, I1, rfl, ⟨_, x, y, rfl, I.hok.fresh (Nat.le_refl _), rfl, fun l hl => by rw [hl.inj I hqx]; exact hx, fun l hl => by rw [hl.inj I hqy]; exact hy⟩, ⟨z'', ?_, ⟨x1, x2, ?_⟩, ?_, ?_⟩, fun c hcm => ?_⟩
    · exact (sb.2 _ D.TIz).trans (hk _ _ D.TIz D.TITO D.TIi1 D.TIi2 hTI)
    · exact (sb.2 _ D.TOz).trans TO'
    · exact h1'.1.keep fun o q => (sb.2 _ D.i1z).trans q
    · exact h2'.1.keep fun o q => (sb.2 _ D.i2z).trans q
    · have hlt : c < s.heap.objs.size := by
        have e' : c = z ∨ c = TI ∨ c = TO ∨ c = i1 ∨ c = i2 := by simpa using hcm
        rcases e' with q | q | q | q | q
        · rw [q]; exact hzl
        · rw [q]; exact Heap.lt_size hTI
        · rw [q]; exact Heap.lt_size hTO
        · rw [q]; exact h1.lt
        · rw [q]; exact h2.lt
      rw [upd_ne (Nat.ne_of_lt hlt)]
      exact (hf c hcm).1
  done := by
    intro X hP hw hK hc i pins s σ H E I hf st hg
    subst hP hw hK
    obtain ⟨hz, hTI, ⟨x0, y0, hTO⟩, h1, h2⟩ := st
    obtain ⟨xs, ys, hqx, hqy, hend⟩ := hg
    obtain ⟨its, rv, p⟩ := hqx.at I
    obtain ⟨its2, rv2, p2⟩ := hqy.at I
    have l1 := rv.length
    have l2 := rv2.length
    obtain ⟨n1, P1, St1, D1, st1, le1, en1⟩ := drawsAt (prog := X.prog) (w := X.w) k1 (A := X.A.in1) (I.ok.hd hc) i1 a D.l1i1 its.toArray h1 p
    obtain ⟨n2, P2, St2, D2, st2, le2, en2⟩ := drawsAt (prog := X.prog) (w := X.w) k2 (A := X.A.in1) (I.ok.hd hc) i2 b D.l2i2 its2.toArray h2 p2
    have he : i = n1 ∨ i = n2 := by
      rcases hend with q | q
      · exact .inl (en1 (by rw [List.size_toArray]; omega))
      · exact .inr (en2 (by rw [List.size_toArray]; omega))
    exact wpAny_pyNext_zipD2_end (sep2 D) D1 D2 hz hTI hTO st1 st2 le1 le2 he fun h' tk hk => ⟨rfl, I.turnedL (t' := tk) (ch := [z, TI, TO, i1, i2]) (fun c o hb q =>
      hk c o (fun q' => hb (by simp [q'])) (fun q' => hb (by simp [q'])) (fun q' => hb (by simp [q'])) (fun q' => hb (by simp [q'])) q) hf⟩
  self := fun A i s Q E st h => wpAny_pyIter_zip st.1 h
def iZipG (K : PySem.W.Frag) (ta : TA) : TI := fun σ H R => ta σ H fun vs H1 => ∃ k1 k2 a b xs ys, vs = [.ref a, .ref b] ∧ SqX k1 K H1 a xs ∧ SqX k2 K H1 b ys ∧ R (ItzG K k1 k2 a b) H1
theorem pi_zipG {X : Cx} {e e2 : Expr} {ta : TA} {p pos tpos : Pos} {elts : List Expr} {kk : Nat} (hg : Gl X "zip") (hm : X.mg "zip" = none) (ha : PA X [e, e2] ta)
    (hs : starEach [e, e2] X.env = (false, eval e X.env) :: starEach [e2] X.env := by rfl) (hpl : (backTo pos (starEach [e2] X.env)).any (·.1) = false := by rfl) :
    PI X (.Tuple elts kk tpos) (.Call (.Name "zip" p) [e, e2] [] pos) (iZipG X.K ta) := by
  refine ⟨fun pins s σ H R I h => ?_⟩
  refine Call_ (ld_blt I hg hm PyProof.Rows.boot_zip (PyProof.Rows.callWith_type1 (thn (ha.run pos pins s σ H _ I h) fun us s1 ⟨vs, H1, I1, r1, q1⟩ => ?_) hs hpl))
  obtain ⟨k1, k2, a, b, xs, ys, ex, hqx, hqy, q⟩ := q1
  subst ex
  cases r1 with
  | cons r rr =>
    cases rr with
    | cons r' rr =>
      cases rr
      cases r
      cases r'
      have fresh5 : ∀ c, c ∈ [s1.heap.objs.size + 4, s1.heap.objs.size + 2, s1.heap.objs.size + 3, s1.heap.objs.size, s1.heap.objs.size + 1] → FpOk X pins H1 c := fun c hcm => by
        have e' : c = s1.heap.objs.size + 4 ∨ c = s1.heap.objs.size + 2 ∨ c = s1.heap.objs.size + 3 ∨ c = s1.heap.objs.size ∨ c = s1.heap.objs.size + 1 := by simpa using hcm
        have hle : s1.heap.objs.size ≤ c := by
          rcases e' with z | z | z | z | z
          · rw [z]; exact Nat.le_add_right _ _
          · rw [z]; exact Nat.le_add_right _ _
          · rw [z]; exact Nat.le_add_right _ _
          · rw [z]; exact Nat.le_refl _
          · rw [z]; exact Nat.le_add_right _ _
        exact I1.fpOk hle (I1.hok.fresh hle)
      obtain ⟨its, rv, p1⟩ := hqx.at I1
      obtain ⟨its2, rv2, p2⟩ := hqy.at I1
      refine zip_begins2 (beginsX k1 a its.toArray) (beginsX k2 b its2.toArray) p1 p2 fun h' hz hTI hTO h1 h2 hsz hk => wpAny_pyIter_zip hz ?_
      have I2 : Inv X pins σ H1 { s1 with heap := h' } := I1.kept (t' := s1.toks) hk
      exact ⟨s1.heap.objs.size + 4, [s1.heap.objs.size + 4, s1.heap.objs.size + 2, s1.heap.objs.size + 3, s1.heap.objs.size, s1.heap.objs.size + 1], _, _, H1, rfl, I2, turn_zipG (PySem.W.ktu_apart s1.heap.objs.size a b p1.lt p2.lt), ⟨hz, hTI, ⟨_, _, hTO⟩, itx_new h1, itx_new h2⟩, fresh5, q⟩
/-! ### three -/
def ItzG3 (K : PySem.W.Frag) (k1 k2 k3 : Bool) (a b c : Addr) : It :=
  ⟨fun i H => ∃ (xs ys zs : List V) (x y z : V), SqX k1 K H a xs ∧ SqX k2 K H b ys ∧ SqX k3 K H c zs ∧ xs[i]? = some x ∧ ys[i]? = some y ∧ zs[i]? = some z,
    fun i H v H' => ∃ T x y z, v = .ref T ∧ H T = none ∧ H' = upd H T (.tup [x, y, z]) ∧ (∀ xs, SqX k1 K H a xs → xs[i]? = some x) ∧ (∀ ys, SqX k2 K H b ys → ys[i]? = some y) ∧ ∀ zs, SqX k3 K H c zs → zs[i]? = some z,
    fun i H => ∃ xs ys zs : List V, SqX k1 K H a xs ∧ SqX k2 K H b ys ∧ SqX k3 K H c zs ∧ (xs.length ≤ i ∨ ys.length ≤ i ∨ zs.length ≤ i)⟩
/-- the cells of a zip of three lie apart -/
structure Apart3 (z TI TO i1 i2 i3 a b c : Addr) : Prop where
  S : ZipSep3 z TI TO i1 i2 i3 [i1, a] [i2, b] [i3, c]
  a1 : a ≠ i1
  b2 : b ≠ i2
  c3 : c ≠ i3
theorem apart3 (I a b c : Nat) (h1 : a < I) (h2 : b < I) (h3 : c < I) : Apart3 (I + 5) (I + 3) (I + 4) I (I + 1) (I + 2) a b c := by
  refine ⟨?_, PySem.W.neN (by omega), PySem.W.neN (by omega), PySem.W.neN (by omega)⟩
  constructor <;> first
    | exact PySem.W.neN (by omega)
    | (simp only [List.mem_cons, List.not_mem_nil, or_false, not_or]; exact ⟨PySem.W.neN (by omega), PySem.W.neN (by omega)⟩)
    | simp
theorem turn_zipG3 {P : Program} {w : World} {K : PySem.W.Frag} {elts : List Expr} {kk : Nat} {tpos : Pos} {k1 k2 k3 : Bool} {a b c z TI TO i1 i2 i3 : Addr} (D : Apart3 z TI TO i1 i2 i3 a b c) :
    Turn P w K (.Tuple elts kk tpos) (ItzG3 K k1 k2 k3 a b c) [z, TI, TO, i1, i2, i3] z (fun i h => IsZip h z TI TO .none ∧ IsTupOf3 h TI (.ref i1) (.ref i2) (.ref i3) ∧ (∃ x y u, IsTupOf3 h TO x y u) ∧ ItX' k1 h i1 a i ∧ ItX' k2 h i2 b i ∧ ItX' k3 h i3 c i) where
  mem := by simp
  obj := fun i h st c hc => by
    obtain ⟨hz, hTI, ⟨x, y, u, hTO⟩, h1, h2, h3⟩ := st
    have e' : c = z ∨ c = TI ∨ c = TO ∨ c = i1 ∨ c = i2 ∨ c = i3 := by simpa using hc
    rcases e' with q | q | q | q | q | q
    · rw [q]; exact ⟨_, hz, fun v q => nomatch q⟩
    · rw [q]; exact ⟨_, hTI, fun v q => nomatch q⟩
    · rw [q]; exact ⟨_, hTO, fun v q => nomatch q⟩
    · rw [q]; exact h1.obj
    · rw [q]; exact h2.obj
    · rw [q]; exact h3.obj
  keep := fun i h h' st k => by
    obtain ⟨hz, hTI, ⟨x, y, u, hTO⟩, h1, h2, h3⟩ := st
    exact ⟨k z (by simp) _ hz, k TI (by simp) _ hTI, ⟨x, y, u, k TO (by simp) _ hTO⟩, h1.keep fun o q => k i1 (by simp) o q, h2.keep fun o q => k i2 (by simp) o q, h3.keep fun o q => k i3 (by simp) o q⟩
  item := by
    intro X hP hw hK hc i pins s σ H E I hf st hg
    subst hP hw hK
    obtain ⟨hz, hTI, ⟨x0, y0, u0, hTO⟩, h1, h2, h3⟩ := st
    obtain ⟨xs, ys, zs, x, y, u, hqx, hqy, hqz, hx, hy, hu⟩ := hg
    obtain ⟨its, rv, p⟩ := hqx.at I
    obtain ⟨its2, rv2, p2⟩ := hqy.at I
    obtain ⟨its3, rv3, p3⟩ := hqz.at I
    obtain ⟨v1, hv1, r1⟩ := rv.get hx
    obtain ⟨v2, hv2, r2⟩ := rv2.get hy
    obtain ⟨v3, hv3, r3⟩ := rv3.get hu
    have hzl : z < s.heap.objs.size := Heap.lt_size hz
    have l1 : i < its.toArray.size := by rw [List.size_toArray]; exact (List.getElem?_eq_some_iff.mp hv1).1
    have l2 : i < its2.toArray.size := by rw [List.size_toArray]; exact (List.getElem?_eq_some_iff.mp hv2).1
    have l3 : i < its3.toArray.size := by rw [List.size_toArray]; exact (List.getElem?_eq_some_iff.mp hv3).1
    refine wpAny_pyNext_zipD3_item D.S (drawsX k1 (A := X.A.in1) (I.ok.hd hc) i1 a D.a1 its.toArray) (drawsX k2 (A := X.A.in1) (I.ok.hd hc) i2 b D.b2 its2.toArray) (drawsX k3 (A := X.A.in1) (I.ok.hd hc) i3 c D.c3 its3.toArray) hz hTI hTO ⟨h1, p⟩ ⟨h2, p2⟩ ⟨h3, p3⟩ l1 l2 l3 fun x1 x2 x3 h' tk e1 e2 e3 z' TO' h1' h2' h3' hT hsz hk => ?_
    have g1 : x1 = v1 := by
      have q1 : its.toArray[i]? = some x1 := e1
      have q2 : its.toArray[i]? = some v1 := by simpa using hv1
      rw [q1] at q2; exact Option.some.inj q2
    have g2 : x2 = v2 := by
      have q1 : its2.toArray[i]? = some x2 := e2
      have q2 : its2.toArray[i]? = some v2 := by simpa using hv2
      rw [q1] at q2; exact Option.some.inj q2
    have g3 : x3 = v3 := by
      have q1 : its3.toArray[i]? = some x3 := e3
      have q2 : its3.toArray[i]? = some v3 := by simpa using hv3
      rw [q1] at q2; exact Option.some.inj q2
    subst g1 g2 g3
    refine ⟨_, rfl, wpAny_letOwnedTupleGo_zip (s := { s with heap := h', toks := tk }) z' fun h'' z'' sb => ?_⟩
    have hT2 : h''.get? s.heap.objs.size = some { cls := .type "tuple", data := .seq #[x1, x2, x3] } := (sb.2 _ (Nat.ne_of_gt hzl)).trans hT
    have new : ObjOk X.prog X.w (upd H s.heap.objs.size (.tup [x, y, u])) h'' s.heap.objs.size (.tup [x, y, u]) :=
      ⟨by show 3 ≤ sizeLine; decide, [x1, x2, x3], .cons r1 (.cons r2 (.cons r3 .nil)), ⟨_, hT2, rfl, _, rfl⟩⟩
    have I1 : Inv X pins σ (upd H s.heap.objs.size (.tup [x, y, u])) { s with heap := h'', toks := tk } :=
      I.turnedNew (t' := tk) (ch := [z, TI, TO, i1, i2, i3]) (fun c o hb q => (sb.2 c (fun q' => hb (by simp [q']))).trans (hk c o (fun q' => hb (by simp [q'])) (fun q' => hb (by simp [q'])) (fun q' => hb (by simp [q'])) (fun q' => hb (by simp [q'])) (fun q' => hb (by simp [q'])) q)) hf (Nat.le_refl _) new
    refine ⟨.ref s.heap.objs.size, _, I1, rfl, ⟨_, x, y, u, rfl, I.hok.fresh (Nat.le_refl _), rfl, fun l hl => by rw [hl.inj I hqx]; exact hx, fun l hl => by rw [hl.inj I hqy]; exact hy, fun l hl => by rw [hl.inj I hqz]; exact hu⟩, ⟨z'', ?_, ⟨x1, x2, x3, ?_⟩, ?_, ?_, ?_⟩, fun c hcm => ?_⟩
    · exact (sb.2 _ D.S.TIz).trans (hk _ _ D.S.TIz D.S.TITO D.S.TIi1 D.S.TIi2 D.S.TIi3 hTI)
    · exact (sb.2 _ D.S.TOz).trans TO'
    · exact h1'.1.keep fun o q => (sb.2 _ (Ne.symm D.S.zi1)).trans q
    · exact h2'.1.keep fun o q => (sb.2 _ (Ne.symm D.S.zi2)).trans q
    · exact h3'.1.keep fun o q => (sb.2 _ (Ne.symm D.S.zi3)).trans q
    · have hlt : c < s.heap.objs.size := by
        have e' : c = z ∨ c = TI ∨ c = TO ∨ c = i1 ∨ c = i2 ∨ c = i3 := by simpa using hcm
        rcases e' with q | q | q | q | q | q
        · rw [q]; exact hzl
        · rw [q]; exact Heap.lt_size hTI
        · rw [q]; exact Heap.lt_size hTO
        · rw [q]; exact h1.lt
        · rw [q]; exact h2.lt
        · rw [q]; exact h3.lt
      rw [upd_ne (Nat.ne_of_lt hlt)]
      exact (hf c hcm).1
  done := by
    intro X hP hw hK hc i pins s σ H E I hf st hg
    subst hP hw hK
    obtain ⟨hz, hTI, ⟨x0, y0, u0, hTO⟩, h1, h2, h3⟩ := st
    obtain ⟨xs, ys, zs, hqx, hqy, hqz, hend⟩ := hg
    obtain ⟨its, rv, p⟩ := hqx.at I
    obtain ⟨its2, rv2, p2⟩ := hqy.at I
    obtain ⟨its3, rv3, p3⟩ := hqz.at I
    have l1 := rv.length
    have l2 := rv2.length
    have l3 := rv3.length
    obtain ⟨n1, P1, St1, D1, st1, le1, en1⟩ := drawsAt (prog := X.prog) (w := X.w) k1 (A := X.A.in1) (I.ok.hd hc) i1 a D.a1 its.toArray h1 p
    obtain ⟨n2, P2, St2, D2, st2, le2, en2⟩ := drawsAt (prog := X.prog) (w := X.w) k2 (A := X.A.in1) (I.ok.hd hc) i2 b D.b2 its2.toArray h2 p2
    obtain ⟨n3, P3, St3, D3, st3, le3, en3⟩ := drawsAt (prog := X.prog) (w := X.w) k3 (A := X.A.in1) (I.ok.hd hc) i3 c D.c3 its3.toArray h3 p3
    have he : i = n1 ∨ i = n2 ∨ i = n3 := by
      rcases hend with q | q | q
      · exact .inl (en1 (by rw [List.size_toArray]; omega))
      · exact .inr (.inl (en2 (by rw [List.size_toArray]; omega)))
      · exact .inr (.inr (en3 (by rw [List.size_toArray]; omega)))
    exact wpAny_pyNext_zipD3_end D.S D1 D2 D3 hz hTI hTO st1 st2 st3 le1 le2 le3 he fun h' tk hk => ⟨rfl, I.turnedL (t' := tk) (ch := [z, TI, TO, i1, i2, i3]) (fun c o hb q =>
      hk c o (fun q' => hb (by simp [q'])) (fun q' => hb (by simp [q'])) (fun q' => hb (by simp [q'])) (fun q' => hb (by simp [q'])) (fun q' => hb (by simp [q'])) q) hf⟩
  self := fun A i s Q E st h => wpAny_pyIter_zip st.1 h
def iZipG3 (K : PySem.W.Frag) (ta : TA) : TI := fun σ H R => ta σ H fun vs H1 => ∃ k1 k2 k3 a b c xs ys zs, vs = [.ref a, .ref b, .ref c] ∧ SqX k1 K H1 a xs ∧ SqX k2 K H1 b ys ∧ SqX k3 K H1 c zs ∧ R (ItzG3 K k1 k2 k3 a b c) H1
theorem pi_zipG3 {X : Cx} {e e2 e3 : Expr} {ta : TA} {p pos tpos : Pos} {elts : List Expr} {kk : Nat} (hg : Gl X "zip") (hm : X.mg "zip" = none) (ha : PA X [e, e2, e3] ta)
    (hs : starEach [e, e2, e3] X.env = (false, eval e X.env) :: starEach [e2, e3] X.env := by rfl) (hpl : (backTo pos (starEach [e2, e3] X.env)).any (·.1) = false := by rfl) :
    PI X (.Tuple elts kk tpos) (.Call (.Name "zip" p) [e, e2, e3] [] pos) (iZipG3 X.K ta) := by
  refine ⟨fun pins s σ H R I h => ?_⟩
  refine Call_ (ld_blt I hg hm PyProof.Rows.boot_zip (PyProof.Rows.callWith_type1 (thn (ha.run pos pins s σ H _ I h) fun us s1 ⟨vs, H1, I1, r1, q1⟩ => ?_) hs hpl))
  obtain ⟨k1, k2, k3, a, b, c, xs, ys, zs, ex, hqx, hqy, hqz, q⟩ := q1
  subst ex
  cases r1 with
  | cons r rr =>
    cases rr with
    | cons r' rr =>
      cases rr with
      | cons r'' rr =>
        cases rr
        cases r
        cases r'
        cases r''
        have fresh6 : ∀ c, c ∈ [s1.heap.objs.size + 5, s1.heap.objs.size + 3, s1.heap.objs.size + 4, s1.heap.objs.size, s1.heap.objs.size + 1, s1.heap.objs.size + 2] → FpOk X pins H1 c := fun c hcm => by
          have e' : c = s1.heap.objs.size + 5 ∨ c = s1.heap.objs.size + 3 ∨ c = s1.heap.objs.size + 4 ∨ c = s1.heap.objs.size ∨ c = s1.heap.objs.size + 1 ∨ c = s1.heap.objs.size + 2 := by simpa using hcm
          have hle : s1.heap.objs.size ≤ c := by
            rcases e' with z | z | z | z | z | z
            · rw [z]; exact Nat.le_add_right _ _
            · rw [z]; exact Nat.le_add_right _ _
            · rw [z]; exact Nat.le_add_right _ _
            · rw [z]; exact Nat.le_refl _
            · rw [z]; exact Nat.le_add_right _ _
            · rw [z]; exact Nat.le_add_right _ _
          exact I1.fpOk hle (I1.hok.fresh hle)
        obtain ⟨its, rv, p1⟩ := hqx.at I1
        obtain ⟨its2, rv2, p2⟩ := hqy.at I1
        obtain ⟨its3, rv3, p3⟩ := hqz.at I1
        refine zip_begins3 (beginsX k1 a its.toArray) (beginsX k2 b its2.toArray) (beginsX k3 c its3.toArray) p1 p2 p3 fun h' hz hTI hTO h1 h2 h3 hsz hk => wpAny_pyIter_zip hz ?_
        have I2 : Inv X pins σ H1 { s1 with heap := h' } := I1.kept (t' := s1.toks) hk
        exact ⟨s1.heap.objs.size + 5, [s1.heap.objs.size + 5, s1.heap.objs.size + 3, s1.heap.objs.size + 4, s1.heap.objs.size, s1.heap.objs.size + 1, s1.heap.objs.size + 2], _, _, H1, rfl, I2, turn_zipG3 (apart3 s1.heap.objs.size a b c p1.lt p2.lt p3.lt), ⟨hz, hTI, ⟨_, _, _, hTO⟩, itx_new h1, itx_new h2, itx_new h3⟩, fresh6, q⟩
end VL
set_option maxHeartbeats 4000000
/-! VLh: what is walked, comprehensions. -/
namespace VL
open PySem PySem.Spec PyProof.Rows L2
/-- J gives the data ds as long as the frozen part stands -/
structure WalkD (C : CT) (S : SG) (F : Hp) (J : It) (ds : List D) : Prop where
  go : ∀ i H, Sub F H → i < ds.length → J.go i H
  stop : ∀ H, Sub F H → J.stop ds.length H
  yld : ∀ i H x H' d, Sub F H → ds[i]? = some d → J.yld i H x H' → (H' = H ∧ Rep C S F d x) ∨ ∃ T vs es, x = .ref T ∧ H T = none ∧ H' = upd H T (.tup vs) ∧ d = .tup es ∧ Reps C S F es vs
def tI (C : CT) (Γ : Nat → VSp) (W : WP) (t : VI) : TI := fun σ H R => ∃ (S : SG) (F0 H0 F : Hp) (ρ : En) (K : List D → En → Prop) (E : VL.XK), OK C S F0 H0 F H σ ρ ∧ wI Γ t ρ K E ∧ XOK C S F0 H0 W E ∧
  ∀ ds ρ' J F' H', OK C S F0 H0 F' H' σ ρ' → Tr S ρ ρ' σ F H F' H' → WalkD C S F' J ds → K ds ρ' → R J H'
section
variable {C : CT} {S : SG} {F0 H0 F H : Hp} {σ : L2.St} {ρ : En}
theorem walk_lst {a : Addr} {vs : List V} {ds : List D} {K : PySem.W.Frag} (h : F a = some (.lst vs)) (r : Reps C S F ds vs) : WalkD C S F (Itl K a) ds where
  go := fun i H s hi => by
    have hl := r.len
    exact ⟨vs, vs[i]'(by omega), .of (s _ _ h), by simp⟩
  stop := fun H s => ⟨vs, .of (s _ _ h), by rw [r.len]; exact Nat.le_refl _⟩
  yld := fun i H x H' d s hd y => by
    obtain ⟨e, k⟩ := y
    obtain ⟨v, hv, rv⟩ := r.at hd
    have := k vs (.of (s _ _ h))
    rw [hv] at this
    cases this
    exact .inl ⟨e, rv⟩
theorem walk_tupD {a : Addr} {vs : List V} {ds : List D} {K : PySem.W.Frag} (hK : K = C.K) (h : F a = some (.tup vs)) (r : Reps C S F ds vs) : WalkD C S F (Itt K a) ds where
  go := fun i H s hi => by
    have hl := r.len
    exact ⟨vs, vs[i]'(by omega), .inl (.inl (s _ _ h)), by simp⟩
  stop := fun H s => ⟨vs, .inl (.inl (s _ _ h)), by rw [r.len]; exact Nat.le_refl _⟩
  yld := fun i H x H' d s hd y => by
    obtain ⟨e, k⟩ := y
    obtain ⟨v, hv, rv⟩ := r.at hd
    have := k vs (.inl (.inl (s _ _ h)))
    rw [hv] at this
    cases this
    exact .inl ⟨e, rv⟩
theorem walk_rng {lo hi : Int} : WalkD C S F (Itr lo (hi - lo).toNat) (rngD lo hi) where
  go := fun i H s hi => by
    unfold rngD at hi
    rw [List.length_map, List.length_range] at hi
    exact hi
  stop := fun H s => by
    show (hi - lo).toNat ≤ (rngD lo hi).length
    unfold rngD
    simp
  yld := fun i H x H' d s hd y => by
    obtain ⟨e, k⟩ := y
    unfold rngD at hd
    rw [List.getElem?_map] at hd
    have hi : i < (hi - lo).toNat := by
      cases q : (List.range (hi - lo).toNat)[i]? with
      | none => rw [q] at hd; cases hd
      | some j => simpa using (List.getElem?_eq_some_iff.mp q).1
    rw [List.getElem?_range hi] at hd
    cases hd
    subst k
    exact .inl ⟨e, rep_int⟩
theorem walk_strD {z : Str} : WalkD C S F (Its z) (z.cps.toList.map fun c => .str ⟨#[c]⟩) where
  go := fun i H s hi => by
    rw [List.length_map, Array.length_toList] at hi
    exact hi
  stop := fun H s => by
    show z.cps.size ≤ (z.cps.toList.map fun c => D.str ⟨#[c]⟩).length
    simp
  yld := fun i H x H' d s hd y => by
    obtain ⟨e, c, hc, k⟩ := y
    rw [List.getElem?_map, Array.getElem?_toList, hc] at hd
    cases hd
    subst k
    exact .inl ⟨e, rep_str⟩
theorem enumD_at : ∀ (ds : List D) (k i : Nat), (enumD k ds)[i]? = ds[i]?.map fun d => .tup [.int ((k + i : Nat) : Int), d]
  | [], k, i => by unfold enumD; simp
  | d :: ds, k, 0 => by unfold enumD; simp
  | d :: ds, k, i + 1 => by
    unfold enumD
    rw [List.getElem?_cons_succ, List.getElem?_cons_succ, enumD_at ds (k + 1) i]
    have : k + 1 + i = k + (i + 1) := by omega
    rw [this]
theorem enumD_len : ∀ (ds : List D) (k : Nat), (enumD k ds).length = ds.length
  | [], k => by unfold enumD; rfl
  | d :: ds, k => by
    unfold enumD
    rw [List.length_cons, List.length_cons, enumD_len ds (k + 1)]
theorem walk_enumD {a : Addr} {vs : List V} {ds : List D} {K : PySem.W.Frag} (h : F a = some (.lst vs)) (r : Reps C S F ds vs) : WalkD C S F (Ite K a) (enumD 0 ds) where
  go := fun i H s hi => by
    have hl := r.len
    rw [enumD_len] at hi
    exact ⟨vs, vs[i]'(by omega), .of (s _ _ h), by simp⟩
  stop := fun H s => ⟨vs, .of (s _ _ h), by rw [r.len, enumD_len]; exact Nat.le_refl _⟩
  yld := fun i H x H' d s hd y => by
    obtain ⟨T, x', e1, e2, e3, k⟩ := y
    rw [enumD_at] at hd
    cases q : ds[i]? with
    | none => rw [q] at hd; cases hd
    | some d' =>
      rw [q] at hd
      cases hd
      obtain ⟨v, hv, rv⟩ := r.at q
      have := k vs (.of (s _ _ h))
      rw [hv] at this
      cases this
      refine .inr ⟨T, _, _, e1, e2, e3, rfl, .cons ?_ (.cons rv .nil)⟩
      rw [Nat.zero_add]
      exact rep_int
theorem walk_enumT {a : Addr} {vs : List V} {ds : List D} {K : PySem.W.Frag} (h : F a = some (.tup vs)) (r : Reps C S F ds vs) : WalkD C S F (IteT K a) (enumD 0 ds) where
  go := fun i H s hi => by
    have hl := r.len
    rw [enumD_len] at hi
    exact ⟨vs, vs[i]'(by omega), .inl (.inl (s _ _ h)), by simp⟩
  stop := fun H s => ⟨vs, .inl (.inl (s _ _ h)), by rw [r.len, enumD_len]; exact Nat.le_refl _⟩
  yld := fun i H x H' d s hd y => by
    obtain ⟨T, x', e1, e2, e3, k⟩ := y
    rw [enumD_at] at hd
    cases q : ds[i]? with
    | none => rw [q] at hd; cases hd
    | some d' =>
      rw [q] at hd
      cases hd
      obtain ⟨v, hv, rv⟩ := r.at q
      have := k vs (.inl (.inl (s _ _ h)))
      rw [hv] at this
      cases this
      refine .inr ⟨T, _, _, e1, e2, e3, rfl, .cons ?_ (.cons rv .nil)⟩
      rw [Nat.zero_add]
      exact rep_int
theorem zipD_at : ∀ (xs ys : List D) (i : Nat) (d : D), (zipD xs ys)[i]? = some d → ∃ x y, xs[i]? = some x ∧ ys[i]? = some y ∧ d = .tup [x, y]
  | x :: xs, y :: ys, 0, d, h => by
    unfold zipD at h
    have : D.tup [x, y] = d := by simpa using h
    exact ⟨x, y, by simp, by simp, this.symm⟩
  | x :: xs, y :: ys, i + 1, d, h => by
    unfold zipD at h
    obtain ⟨a, b, e1, e2, e3⟩ := zipD_at xs ys i d (by simpa using h)
    exact ⟨a, b, by simpa using e1, by simpa using e2, e3⟩
  | [], _, _, _, h => by unfold zipD at h; simp at h
  | _ :: _, [], _, _, h => by unfold zipD at h; simp at h
theorem zipD_len : ∀ (xs ys : List D), (zipD xs ys).length = min xs.length ys.length
  | x :: xs, y :: ys => by
    unfold zipD
    rw [List.length_cons, List.length_cons, List.length_cons, zipD_len xs ys]
    omega
  | [], _ => by unfold zipD; simp
  | _ :: _, [] => by unfold zipD; simp
theorem walk_zipG {k1 k2 : Bool} {a b : Addr} {vs us : List V} {ds es : List D} {K : PySem.W.Frag} (h : F a = some (HOx k1 vs)) (r : Reps C S F ds vs) (h2 : F b = some (HOx k2 us)) (r2 : Reps C S F es us) : WalkD C S F (ItzG K k1 k2 a b) (zipD ds es) where
  go := fun i H s hi => by
    have hl := r.len
    have hl2 := r2.len
    rw [zipD_len] at hi
    exact ⟨vs, us, vs[i]'(by omega), us[i]'(by omega), .of (s _ _ h), .of (s _ _ h2), by simp, by simp⟩
  stop := fun H s => ⟨vs, us, .of (s _ _ h), .of (s _ _ h2), by rw [r.len, r2.len, zipD_len]; omega⟩
  yld := fun i H x H' d s hd y => by
    obtain ⟨T, x', y', e1, e2, e3, k, k2⟩ := y
    obtain ⟨p, q, hp, hq, rfl⟩ := zipD_at ds es i d hd
    obtain ⟨v, hv, rv⟩ := r.at hp
    obtain ⟨u, hu, ru⟩ := r2.at hq
    have := k vs (.of (s _ _ h))
    rw [hv] at this
    cases this
    have := k2 us (.of (s _ _ h2))
    rw [hu] at this
    cases this
    exact .inr ⟨T, _, _, e1, e2, e3, rfl, .cons rv (.cons ru .nil)⟩
theorem zip3D_at : ∀ (xs ys zs : List D) (i : Nat) (d : D), (zip3D xs ys zs)[i]? = some d → ∃ x y z, xs[i]? = some x ∧ ys[i]? = some y ∧ zs[i]? = some z ∧ d = .tup [x, y, z]
  | x :: xs, y :: ys, z :: zs, 0, d, h => by
    unfold zip3D at h
    have : D.tup [x, y, z] = d := by simpa using h
    exact ⟨x, y, z, by simp, by simp, by simp, this.symm⟩
  | x :: xs, y :: ys, z :: zs, i + 1, d, h => by
    unfold zip3D at h
    obtain ⟨a, b, c, e1, e2, e3, e4⟩ := zip3D_at xs ys zs i d (by simpa using h)
    exact ⟨a, b, c, by simpa using e1, by simpa using e2, by simpa using e3, e4⟩
  | [], _, _, _, _, h => by unfold zip3D at h; simp at h
  | _ :: _, [], _, _, _, h => by unfold zip3D at h; simp at h
  | _ :: _, _ :: _, [], _, _, h => by unfold zip3D at h; simp at h
theorem zip3D_len : ∀ (xs ys zs : List D), (zip3D xs ys zs).length = min xs.length (min ys.length zs.length)
  | x :: xs, y :: ys, z :: zs => by
    unfold zip3D
    rw [List.length_cons, List.length_cons, List.length_cons, List.length_cons, zip3D_len xs ys zs]
    omega
  | [], _, _ => by unfold zip3D; simp
  | _ :: _, [], _ => by unfold zip3D; simp
  | _ :: _, _ :: _, [] => by unfold zip3D; simp
theorem walk_zipG3 {k1 k2 k3 : Bool} {a b c : Addr} {vs us ws : List V} {ds es fs : List D} {K : PySem.W.Frag} (h : F a = some (HOx k1 vs)) (r : Reps C S F ds vs) (h2 : F b = some (HOx k2 us)) (r2 : Reps C S F es us) (h3 : F c = some (HOx k3 ws)) (r3 : Reps C S F fs ws) : WalkD C S F (ItzG3 K k1 k2 k3 a b c) (zip3D ds es fs) where
  go := fun i H s hi => by
    have hl := r.len
    have hl2 := r2.len
    have hl3 := r3.len
    rw [zip3D_len] at hi
    exact ⟨vs, us, ws, vs[i]'(by omega), us[i]'(by omega), ws[i]'(by omega), .of (s _ _ h), .of (s _ _ h2), .of (s _ _ h3), by simp, by simp, by simp⟩
  stop := fun H s => ⟨vs, us, ws, .of (s _ _ h), .of (s _ _ h2), .of (s _ _ h3), by rw [r.len, r2.len, r3.len, zip3D_len]; omega⟩
  yld := fun i H x H' d s hd y => by
    obtain ⟨T, x', y', z', e1, e2, e3, k, k2, k3⟩ := y
    obtain ⟨p, q, u, hp, hq, hu, rfl⟩ := zip3D_at ds es fs i d hd
    obtain ⟨v1, hv1, rv1⟩ := r.at hp
    obtain ⟨v2, hv2, rv2⟩ := r2.at hq
    obtain ⟨v3, hv3, rv3⟩ := r3.at hu
    have := k vs (.of (s _ _ h))
    rw [hv1] at this
    cases this
    have := k2 us (.of (s _ _ h2))
    rw [hv2] at this
    cases this
    have := k3 ws (.of (s _ _ h3))
    rw [hv3] at this
    cases this
    exact .inr ⟨T, _, _, e1, e2, e3, rfl, .cons rv1 (.cons rv2 (.cons rv3 .nil))⟩
end
section
variable {C : CT} {Γ : Nat → VSp} {X : Cx} {cc : CC} {W : WP}
theorem pi_imp {tg it : Expr} {t t' : TI} (h : PI X tg it t) (i : ∀ σ H R, t' σ H R → t σ H R) : PI X tg it t' := ⟨fun pins s σ H R I q => h.run pins s σ H R I (i σ H R q)⟩
/-- whatever is walked: a list, a tuple, a text -/
def iAny (K : PySem.W.Frag) (te : TE) : TI := fun σ H R => te σ H fun x H1 => (∃ a, x = .ref a ∧ (∃ xs, SqL K H1 a xs) ∧ R (Itl K a) H1) ∨ (∃ a, x = .ref a ∧ (∃ xs, SqT K H1 a xs) ∧ R (Itt K a) H1) ∨ ∃ z, x = .str z ∧ R (Its z) H1
theorem pi_any {tg l : Expr} {tl : TE} (hl : PE X l tl) : PI X tg l (iAny X.K tl) := by
  refine ⟨fun pins s σ H R I h => ?_⟩
  refine thn (hl.run pins s σ H _ I h) fun v s1 ⟨x, H1, I1, r1, q1⟩ => ?_
  rcases q1 with ⟨a, e, ⟨xs, hq⟩, q⟩ | ⟨a, e, ⟨xs, hq⟩, q⟩ | ⟨z, e, q⟩
  · subst e
    cases r1
    obtain ⟨its, rv, p, hz⟩ := I1.list hq
    refine wpAny_pyIter_list p.isList ?_
    refine ⟨s1.heap.objs.size, [s1.heap.objs.size], _, _, H1, rfl, I1.kept (t' := s1.toks) fun b o e => Heap.get?_push_of_some _ e, turn_list a _, ⟨_, Heap.get?_push_size _ rfl, rfl, rfl⟩, fun b hb => ?_, q⟩
    have e : b = s1.heap.objs.size := by simpa using hb
    subst e
    exact I1.fpOk (Nat.le_refl _) (I1.hok.fresh (Nat.le_refl _))
  · subst e
    cases r1
    obtain ⟨its, rv, p, hz⟩ := I1.tuple hq
    refine wpAny_pyIter_tuple (show s1.heap.IsTuple a its.toArray from p) ?_
    refine ⟨s1.heap.objs.size, [s1.heap.objs.size], _, _, H1, rfl, I1.kept (t' := s1.toks) fun b o e => Heap.get?_push_of_some _ e, turn_tuple a _, ⟨_, Heap.get?_push_size _ rfl, rfl, rfl⟩, fun b hb => ?_, q⟩
    have e : b = s1.heap.objs.size := by simpa using hb
    subst e
    exact I1.fpOk (Nat.le_refl _) (I1.hok.fresh (Nat.le_refl _))
  · subst e
    obtain ⟨t, rfl⟩ := r1
    cases ha : z.cps.all (· < 128)
    · exact wpAny_pyIter_wide ha (pi_one (tk := s1.toks) I1 _ (turn_str _ z t "str_iterator" (.inr rfl)) ⟨_, Heap.get?_push_size _ rfl, rfl, rfl⟩ q)
    · exact wpAny_pyIter_ascii ha (pi_one (tk := s1.toks) I1 _ (turn_str _ z t "str_ascii_iterator" (.inl rfl)) ⟨_, Heap.get?_push_size _ rfl, rfl, rfl⟩ q)
theorem s_it (cx : Ctx C Γ X cc W) {tg e : Expr} {va : VE} (h : PE X e (tE C Γ W va)) : PI X tg e (tI C Γ W (.it va)) := by
  refine pi_imp (pi_any h) ?_
  rintro σ H R ⟨S, F0, H0, F, ρ, K, E, O, hw, hx, g⟩
  unfold wI at hw
  refine ⟨S, F0, H0, F, ρ, _, E, O, hw, hx, fun r1 ρ1 v1 F1 H1 O1 t1 q1 f1 hw1 => ?_⟩
  obtain ⟨F2, O2, t2, rv, _⟩ := freeze (P := True) O1 q1 f1.lv
  have hw1 : vIter r1 ρ1 K := hw1
  unfold vIter at hw1
  split at hw1
  · rename_i ds hd
    rw [hd] at rv
    unfold Rep at rv
    obtain ⟨a, vs, e, q, r⟩ := rv
    exact .inl ⟨a, e, ⟨vs, .of (O2.sub _ _ q)⟩, g ds _ _ F2 H1 O2 (t1.trans t2) (walk_lst q r) hw1⟩
  · rename_i ds hd
    rw [hd] at rv
    unfold Rep at rv
    obtain ⟨a, vs, e, q, r⟩ := rv
    exact .inr (.inl ⟨a, e, ⟨vs, .inl (.inl (O2.sub _ _ q))⟩, g ds _ _ F2 H1 O2 (t1.trans t2) (walk_tupD cx.K q r) hw1⟩)
  · rename_i z hd
    rw [hd] at rv
    unfold Rep at rv
    exact .inr (.inr ⟨z, rv, g _ ρ1 _ F1 H1 O1 t1 walk_strD hw1⟩)
  · exact hw1.elim
theorem pi_bad {tg e : Expr} : PI X tg e (tI C Γ W (.it .bad)) := ⟨fun pins s σ H R I q => by
  obtain ⟨_, _, _, _, _, _, _, _, z, _⟩ := q
  unfold wI wE at z
  exact z.elim⟩
theorem vRng1 {d : D} {K : List D → Prop} (h : vRng [d] K) : ∃ n, d = .int n ∧ (-(2 ^ 62) ≤ n ∧ n < 2 ^ 62) ∧ K (rngD 0 n) := by
  cases d <;> first | exact ⟨_, rfl, h⟩ | exact h.elim
theorem vRng2 {d e : D} {K : List D → Prop} (h : vRng [d, e] K) : ∃ m n, d = .int m ∧ e = .int n ∧ (-(2 ^ 62) ≤ m ∧ m < 2 ^ 62 ∧ -(2 ^ 62) ≤ n ∧ n < 2 ^ 62) ∧ K (rngD m n) := by
  cases d <;> cases e <;> first | exact ⟨_, _, rfl, rfl, h⟩ | exact h.elim
theorem s_rng1 (cx : Ctx C Γ X cc W) {tg a : Expr} {va : VE} {p pos : Pos} (h : cc.free "range" = true) (hs : isStar a = false) (ha : PE X a (tE C Γ W va)) : PI X tg (.Call (.Name "range" p) [a] [] pos) (tI C Γ W (.rng (.cons va .nil))) := by
  obtain ⟨g1, g2, g3⟩ := CC.free_ok h
  refine pi_imp (pi_range1 (cx.glob g1) (cx.blt _ g2) (pa_cons ha pa_nil (star_cons hs)) (star_cons hs)) ?_
  rintro σ H R ⟨S, F0, H0, F, ρ, K, E, O, hw, hx, g⟩
  unfold wI wEs wEs at hw
  refine ⟨S, F0, H0, F, ρ, _, E, O, hw, hx, fun r1 ρ1 v1 F1 H1 O1 t1 q1 f1 hw1 => ?_⟩
  obtain ⟨w1, _⟩ := view_of O1 q1 f1.lv
  obtain ⟨n, e, ⟨b1, b2⟩, hk⟩ := vRng1 hw1
  refine ⟨n, by rw [w1.asInt e], b1, b2, ?_⟩
  have wk := walk_rng (C := C) (S := S) (F := F1) (lo := 0) (hi := n)
  rw [Int.sub_zero] at wk
  exact g _ ρ1 _ F1 H1 O1 t1 wk hk
theorem s_rng2 (cx : Ctx C Γ X cc W) {tg a b : Expr} {va vb : VE} {p pos : Pos} (h : cc.free "range" = true) (hs : isStar a = false) (hs2 : isStar b = false) (ha : PE X a (tE C Γ W va)) (hb : PE X b (tE C Γ W vb)) :
    PI X tg (.Call (.Name "range" p) [a, b] [] pos) (tI C Γ W (.rng (.cons va (.cons vb .nil)))) := by
  obtain ⟨g1, g2, g3⟩ := CC.free_ok h
  have e2 : starEach [b] X.env = [(false, eval b X.env)] := star_cons hs2
  have e1 : starEach [a, b] X.env = [(false, eval a X.env), (false, eval b X.env)] := by rw [star_cons hs, e2]
  refine pi_imp (pi_range2 (cx.glob g1) (cx.blt _ g2) (pa_cons ha (pa_cons hb pa_nil (star_cons hs2)) (star_cons hs)) e1 e2) ?_
  rintro σ H R ⟨S, F0, H0, F, ρ, K, E, O, hw, hx, g⟩
  unfold wI wEs wEs wEs at hw
  refine ⟨S, F0, H0, F, ρ, _, E, O, hw, hx, fun r1 ρ1 v1 F1 H1 O1 t1 q1 f1 hw1 => ⟨S, F0, H0, F1, ρ1, _, E, O1, hw1, hx, fun r2 ρ2 v2 F2 H2 O2 t2 q2 f2 hw2 => ?_⟩⟩
  obtain ⟨w2, _⟩ := view_of O2 q2 f2.lv
  obtain ⟨m, n, em, en, bb, hk⟩ := vRng2 hw2
  have w1 : v1 = .int m := by
    cases r1 with
    | val d =>
      have q1' : Rep C S F1 d v1 := q1
      cases (show d = .int m from em)
      unfold Rep at q1'
      exact q1'
    | tmp d =>
      obtain ⟨a, _, _, _, _, _, _, k⟩ := q1
      cases (show d = .int m from em)
      exact k.elim
    | var i d =>
      obtain ⟨a, _, _, _, _, _, _, k⟩ := O1.own i d f1
      cases (show d = .int m from em)
      exact k.elim
  exact ⟨m, n, by rw [w1, w2.asInt en], bb, g _ ρ2 _ F2 H2 O2 (t1.trans t2) walk_rng hk⟩
theorem s_enum (cx : Ctx C Γ X cc W) {a : Expr} {es : List Expr} {k : Nat} {p pos tp : Pos} {va : VE} (h : cc.free "enumerate" = true) (hs : isStar a = false) (ha : PE X a (tE C Γ W va)) :
    PI X (.Tuple es k tp) (.Call (.Name "enumerate" p) [a] [] pos) (tI C Γ W (.enum va)) := by
  obtain ⟨g1, g2, g3⟩ := CC.free_ok h
  refine pi_imp (pi_enumA (cx.glob g1) (cx.blt _ g2) (pa_cons ha pa_nil (star_cons hs)) (star_cons hs)) ?_
  rintro σ H R ⟨S, F0, H0, F, ρ, K, E, O, hw, hx, g⟩
  unfold wI at hw
  refine ⟨S, F0, H0, F, ρ, _, E, O, hw, hx, fun r1 ρ1 v1 F1 H1 O1 t1 q1 f1 hw1 => ?_⟩
  obtain ⟨F2, O2, t2, rv, _⟩ := freeze (P := True) O1 q1 f1.lv
  have hw1 : vEnum r1 ρ1 K := hw1
  unfold vEnum at hw1
  split at hw1
  · rename_i ds hd
    rw [hd] at rv
    unfold Rep at rv
    obtain ⟨b, vs, e, q, r⟩ := rv
    exact ⟨b, vs, by rw [e], .inl ⟨.of (O2.sub _ _ q), g _ _ _ F2 H1 O2 (t1.trans t2) (walk_enumD q r) hw1⟩⟩
  · rename_i ds hd
    rw [hd] at rv
    unfold Rep at rv
    obtain ⟨b, vs, e, q, r⟩ := rv
    exact ⟨b, vs, by rw [e], .inr ⟨.inl (.inl (O2.sub _ _ q)), g _ _ _ F2 H1 O2 (t1.trans t2) (walk_enumT q r) hw1⟩⟩
  · exact hw1.elim
theorem seq_at {S : SG} {F : Hp} {k : Bool} {d : D} {ds : List D} {v : V} (e : seqD d = some (k, ds)) (r : Rep C S F d v) : ∃ a vs, v = .ref a ∧ F a = some (HOx k vs) ∧ Reps C S F ds vs := by
  cases d <;> first | (cases e; unfold Rep at r; exact r) | cases e
theorem s_zip (cx : Ctx C Γ X cc W) {a b : Expr} {es : List Expr} {k : Nat} {p pos tp : Pos} {va vb : VE} (h : cc.free "zip" = true) (hs : isStar a = false) (hs2 : isStar b = false) (ha : PE X a (tE C Γ W va)) (hb : PE X b (tE C Γ W vb)) :
    PI X (.Tuple es k tp) (.Call (.Name "zip" p) [a, b] [] pos) (tI C Γ W (.zip va vb)) := by
  obtain ⟨g1, g2, g3⟩ := CC.free_ok h
  refine pi_imp (pi_zipG (cx.glob g1) (cx.blt _ g2) (pa_cons ha (pa_cons hb pa_nil (star_cons hs2)) (star_cons hs)) (star_cons hs) (by rw [back_any, star_cons hs2]; rfl)) ?_
  rintro σ H R ⟨S, F0, H0, F, ρ, K, E, O, hw, hx, g⟩
  unfold wI at hw
  refine ⟨S, F0, H0, F, ρ, _, E, O, hw, hx, fun r1 ρ1 v1 F1 H1 O1 t1 q1 f1 hw1 => ⟨S, F0, H0, F1, ρ1, _, E, O1, hw1, hx, fun r2 ρ2 v2 F2 H2 O2 t2 q2 f2 hw2 => ?_⟩⟩
  obtain ⟨l1, hw2⟩ := lv_iff.mp hw2
  obtain ⟨F3, O3, t3, rv1, _⟩ := freeze (P := True) O2 (q1.tr t2) l1
  obtain ⟨F4, O4, t4, rv2, _⟩ := freeze (P := True) O3 (q2.tr t3) (lv_fz l1 f2.lv)
  have hw2 : vZip r1 r2 ρ2 K := hw2
  unfold vZip at hw2
  split at hw2
  · rename_i k1 ds k2 es hd he
    obtain ⟨b1, vs, e1, z1, r1'⟩ := seq_at hd rv1
    obtain ⟨b2, us, e2, z2, r2'⟩ := seq_at he rv2
    exact ⟨k1, k2, b1, b2, vs, us, by rw [e1, e2], .of (O3.sub _ _ z1), .of (O4.sub _ _ z2), g _ _ _ F4 H2 O4 (((t1.trans t2).trans t3).trans t4) (walk_zipG (t4.f _ _ z1) (r1'.mono t4.f) z2 r2') hw2⟩
  · exact hw2.elim
theorem s_zip3 (cx : Ctx C Γ X cc W) {a b c : Expr} {es : List Expr} {k : Nat} {p pos tp : Pos} {va vb vc : VE} (h : cc.free "zip" = true) (hs : isStar a = false) (hs2 : isStar b = false) (hs3 : isStar c = false) (ha : PE X a (tE C Γ W va)) (hb : PE X b (tE C Γ W vb)) (hc : PE X c (tE C Γ W vc)) :
    PI X (.Tuple es k tp) (.Call (.Name "zip" p) [a, b, c] [] pos) (tI C Γ W (.zip3 va vb vc)) := by
  obtain ⟨g1, g2, g3⟩ := CC.free_ok h
  refine pi_imp (pi_zipG3 (cx.glob g1) (cx.blt _ g2) (pa_cons ha (pa_cons hb (pa_cons hc pa_nil (star_cons hs3)) (star_cons hs2)) (star_cons hs)) (star_cons hs) (by rw [back_any, star_cons hs2, List.any_cons, star_cons hs3]; rfl)) ?_
  rintro σ H R ⟨S, F0, H0, F, ρ, K, E, O, hw, hx, g⟩
  unfold wI at hw
  refine ⟨S, F0, H0, F, ρ, _, E, O, hw, hx, fun r1 ρ1 v1 F1 H1 O1 t1 q1 f1 hw1 => ⟨S, F0, H0, F1, ρ1, _, E, O1, hw1, hx, fun r2 ρ2 v2 F2 H2 O2 t2 q2 f2 hw2 => ⟨S, F0, H0, F2, ρ2, _, E, O2, hw2, hx, fun r3 ρ3 v3 F3 H3 O3 t3 q3 f3 hw3 => ?_⟩⟩⟩
  obtain ⟨l1, hw3⟩ := lv_iff.mp hw3
  obtain ⟨l2, hw3⟩ := lv_iff.mp hw3
  obtain ⟨F4, O4, t4, rv1, _⟩ := freeze (P := True) O3 ((q1.tr t2).tr t3) l1
  have l2' := lv_fz l1 l2
  obtain ⟨F5, O5, t5, rv2, _⟩ := freeze (P := True) O4 ((q2.tr t3).tr t4) l2'
  obtain ⟨F6, O6, t6, rv3, _⟩ := freeze (P := True) O5 ((q3.tr t4).tr t5) (lv_fz l2' (lv_fz l1 f3.lv))
  have hw3 : vZip3 r1 r2 r3 ρ3 K := hw3
  unfold vZip3 at hw3
  split at hw3
  · rename_i k1 ds k2 es k3 fs hd he hf
    obtain ⟨b1, vs, e1, z1, r1'⟩ := seq_at hd rv1
    obtain ⟨b2, us, e2, z2, r2'⟩ := seq_at he rv2
    obtain ⟨b3, ws, e3, z3, r3'⟩ := seq_at hf rv3
    exact ⟨k1, k2, k3, b1, b2, b3, vs, us, ws, by rw [e1, e2, e3], .of (O4.sub _ _ z1), .of (O5.sub _ _ z2), .of (O6.sub _ _ z3), g _ _ _ F6 H3 O6 (((((t1.trans t2).trans t3).trans t4).trans t5).trans t6) (walk_zipG3 (t6.f _ _ (t5.f _ _ z1)) ((r1'.mono t5.f).mono t6.f) (t6.f _ _ z2) (r2'.mono t6.f) z3 r3') hw3⟩
  · exact hw3.elim

/-! ### comprehensions -/
section
variable {S : SG} {F0 H0 F H F1 H1 F' H' : Hp} {σ : L2.St} {ρ ρ1 ρ' : En} {a : Addr}
/-- the new list counts as something old -/
theorem OK.rebase (O : OK C S F0 H0 F H σ ρ) {u : HO} (h : H a = some u) (h0 : H0 a = none) (hf : F a = none) (hn : NoSlot σ ρ a) (hp : a ≠ S.p) : OK C S F0 (upd H0 a u) F H σ ρ where
  sub := O.sub
  fr := fun b o hb e => by
    by_cases hx : b = a
    · subst hx; rw [upd_same] at e; rw [← e]; exact h
    · rw [upd_ne hx] at e; exact O.fr b o hb e
  p0 := by rw [upd_ne (Ne.symm hp)]; exact O.p0
  f0 := O.f0
  fn := fun b o e => by
    have hx : b ≠ a := fun z => by subst z; rw [hf] at e; cases e
    rw [upd_ne hx]
    exact O.fn b o e
  len := O.len
  val := O.val
  own := fun i d e => by
    obtain ⟨b, e1, k0, k⟩ := O.own i d e
    have hx : b ≠ a := fun z => by subst z; exact hn i d e e1
    exact ⟨b, e1, by rw [upd_ne hx]; exact k0, k⟩
  dis := O.dis
  sto := O.sto
theorem OK.unbase {u : HO} (O : OK C S F0 (upd H0 a u) F H σ ρ) (hu : ∀ ts, u ≠ .tup ts) (h0 : H0 a = none) (hf0 : F0 a = none) (hp : a ≠ S.p) : OK C S F0 H0 F H σ ρ ∧ F a = none ∧ H a = some u ∧ NoSlot σ ρ a := by
  have up : ∀ b, upd H0 a u b = none → H0 b = none := fun b e => by
    by_cases hx : b = a
    · subst hx; exact h0
    · rw [upd_ne hx] at e; exact e
  refine ⟨⟨O.sub, fun b o hb e => O.fr b o hb (Sub.upd h0 b o e), fun e => O.p0 (by rw [upd_ne (Ne.symm hp)]; exact e), O.f0, fun b o e => ?_, O.len, O.val, fun i d e => ?_, O.dis, O.sto⟩, ?_, O.fr a u hp upd_same, fun i d e q => ?_⟩
  · rcases O.fn b o e with z | z | z
    · exact .inl z
    · exact .inr (.inl (up b z))
    · exact .inr (.inr z)
  · obtain ⟨b, e1, k0, k⟩ := O.own i d e
    exact ⟨b, e1, up b k0, k⟩
  · cases q : F a with
    | none => rfl
    | some o =>
      rcases O.fn a o q with z | z | ⟨ts, z⟩
      · rw [hf0] at z; cases z
      · rw [upd_same] at z; cases z
      · have e1 := O.fr a u hp upd_same
        rw [O.sub a o q] at e1
        cases e1
        exact (hu ts z).elim
  · obtain ⟨b, e1, k0, k⟩ := O.own i d e
    rw [q] at e1
    cases e1
    rw [upd_same] at k0
    cases k0
theorem OK.updFree (O : OK C S F0 H0 F H σ ρ) {u : HO} (h0 : H0 a = none) (hf : F a = none) (hn : NoSlot σ ρ a) (hp : a ≠ S.p) : OK C S F0 H0 F (upd H a u) σ ρ where
  sub := fun b o e => by
    have hx : b ≠ a := fun z => by subst z; rw [hf] at e; cases e
    rw [upd_ne hx]; exact O.sub b o e
  fr := fun b o hb e => by
    have hx : b ≠ a := fun z => by subst z; rw [h0] at e; cases e
    rw [upd_ne hx]; exact O.fr b o hb e
  p0 := O.p0
  f0 := O.f0
  fn := O.fn
  len := O.len
  val := O.val
  own := fun i d e => by
    obtain ⟨b, e1, k0, k1, k2, k⟩ := O.own i d e
    have hx : b ≠ a := fun z => by subst z; exact hn i d e e1
    obtain ⟨o', z, r⟩ := k
    exact ⟨b, e1, k0, k1, k2, o', by rw [upd_ne hx]; exact z, r⟩
  dis := O.dis
  sto := by
    obtain ⟨x, y, l, t, s, z, b⟩ := O.sto.st
    exact ⟨O.sto.cells, O.sto.free, O.sto.len, x, y, l, t, s, by rw [upd_ne (Ne.symm hp)]; exact z, b⟩
theorem OK.none1 (O : OK C S F0 H0 F H σ ρ) (i : Nat) : OK C S F0 H0 F H (σ.set i none) (ρ.set i .un) where
  sub := O.sub
  fr := O.fr
  p0 := O.p0
  f0 := O.f0
  fn := O.fn
  len := by rw [List.length_set, List.length_set]; exact O.len
  val := fun j d' h => by
    rcases get_set h with ⟨hj, z⟩ | ⟨hj, z⟩
    · cases z
    · obtain ⟨w, e, rw1⟩ := O.val j d' z
      exact ⟨w, by rw [List.getElem?_set_ne (Ne.symm hj)]; exact e, rw1⟩
  own := fun j d' h => by
    rcases get_set h with ⟨_, z⟩ | ⟨hj, z⟩
    · cases z
    · obtain ⟨a, e, k⟩ := O.own j d' z
      exact ⟨a, by rw [List.getElem?_set_ne (Ne.symm hj)]; exact e, k⟩
  dis := fun j k d' e' b h1 h2 s1 s2 => by
    rcases get_set h1 with ⟨_, z⟩ | ⟨hj, z⟩
    · cases z
    · rcases get_set h2 with ⟨_, z2⟩ | ⟨hk, z2⟩
      · cases z2
      · rw [List.getElem?_set_ne (Ne.symm hj)] at s1
        rw [List.getElem?_set_ne (Ne.symm hk)] at s2
        exact O.dis j k d' e' b z z2 s1 s2
  sto := O.sto
theorem OK.wipe (O : OK C S F0 H0 F H σ ρ) : ∀ is : List Nat, OK C S F0 H0 F H (L2.wipe σ is) (wipeV is ρ)
  | [] => O
  | i :: is => (OK.wipe O is).none1 i
theorem wipeV_own {d : D} : ∀ {is : List Nat} {i : Nat}, (wipeV is ρ)[i]? = some (.own d) → ρ[i]? = some (.own d) ∧ i ∉ is
  | [], i, h => ⟨h, by simp⟩
  | j :: is, i, h => by
    rcases get_set h with ⟨_, z⟩ | ⟨hj, z⟩
    · cases z
    · obtain ⟨a, b⟩ := wipeV_own z
      exact ⟨a, by simp only [List.mem_cons, not_or]; exact ⟨hj, b⟩⟩
theorem noOwn_iff {P : Prop} : ∀ {is : List Nat}, noOwn is ρ P → (∀ i ∈ is, ∀ d, ρ[i]? ≠ some (.own d)) ∧ P
  | [], h => ⟨fun _ z => (nomatch z), h⟩
  | i :: is, h => by
    unfold noOwn at h
    split at h
    · exact h.elim
    · rename_i hn
      obtain ⟨a, p⟩ := noOwn_iff h
      exact ⟨fun j hj d => by
        rcases List.mem_cons.mp hj with e | hj
        · subst e; exact hn d
        · exact a j hj d, p⟩
theorem backV_get {s : VL.Slot} (hl : ρ1.length = ρ.length) : ∀ {is : List Nat} {j : Nat}, (backV ρ1 is ρ)[j]? = some s → (j ∈ is ∧ ρ1[j]? = some s) ∨ (j ∉ is ∧ ρ[j]? = some s)
  | [], j, h => .inr ⟨by simp, h⟩
  | i :: is, j, h => by
    unfold backV at h
    split at h
    · rename_i s0 hs
      rcases get_set h with ⟨hj, z⟩ | ⟨hj, z⟩
      · subst hj; subst z
        exact .inl ⟨by simp, hs⟩
      · rcases backV_get hl z with ⟨a, b⟩ | ⟨a, b⟩
        · exact .inl ⟨List.mem_cons_of_mem _ a, b⟩
        · exact .inr ⟨by simp only [List.mem_cons, not_or]; exact ⟨hj, a⟩, b⟩
    · rename_i hs
      rcases backV_get hl h with ⟨a, b⟩ | ⟨a, b⟩
      · exact .inl ⟨List.mem_cons_of_mem _ a, b⟩
      · refine .inr ⟨?_, b⟩
        simp only [List.mem_cons, not_or]
        refine ⟨fun e => ?_, a⟩
        subst e
        have h1 := List.getElem?_eq_none_iff.mp hs
        have h2 := get_lt b
        omega
theorem backV_len : ∀ {is : List Nat}, (backV ρ1 is ρ).length = ρ.length
  | [] => rfl
  | i :: is => by
    unfold backV
    split
    · rw [List.length_set, backV_len]
    · exact backV_len
theorem wipe_get {is : List Nat} {i : Nat} (h : i ∉ is) : (L2.wipe σ is)[i]? = σ[i]? := wipe_out h
theorem wipeV_len : ∀ {is : List Nat}, (wipeV is ρ).length = ρ.length
  | [] => rfl
  | i :: is => by
    unfold wipeV
    rw [List.length_set, wipeV_len]
/-- behind a comprehension -/
theorem OK.back {own : List Nat} (O1 : OK C S F0 H0 F1 H1 σ ρ1) (hn : ∀ i ∈ own, ∀ d, ρ1[i]? ≠ some (.own d)) (O' : OK C S F0 H0 F' H' (L2.wipe σ own) ρ') (s : Sub F1 F') : OK C S F0 H0 F' H' σ (backV ρ1 own ρ') where
  sub := O'.sub
  fr := O'.fr
  p0 := O'.p0
  f0 := O'.f0
  fn := O'.fn
  len := by rw [backV_len, O'.len, wipe_length]
  val := fun j d h => by
    have hl : ρ1.length = ρ'.length := by rw [O1.len, O'.len, wipe_length]
    rcases backV_get hl h with ⟨a, b⟩ | ⟨a, b⟩
    · obtain ⟨v, e, r⟩ := O1.val j d b
      exact ⟨v, e, r.mono s⟩
    · obtain ⟨v, e, r⟩ := O'.val j d b
      rw [wipe_get a] at e
      exact ⟨v, e, r⟩
  own := fun j d h => by
    have hl : ρ1.length = ρ'.length := by rw [O1.len, O'.len, wipe_length]
    rcases backV_get hl h with ⟨a, b⟩ | ⟨a, b⟩
    · exact absurd b (hn j a d)
    · obtain ⟨v, e, r⟩ := O'.own j d b
      rw [wipe_get a] at e
      exact ⟨v, e, r⟩
  dis := fun j k d e b h1 h2 s1 s2 => by
    have hl : ρ1.length = ρ'.length := by rw [O1.len, O'.len, wipe_length]
    rcases backV_get hl h1 with ⟨a1, b1⟩ | ⟨a1, b1⟩
    · exact absurd b1 (hn j a1 d)
    · rcases backV_get hl h2 with ⟨a2, b2⟩ | ⟨a2, b2⟩
      · exact absurd b2 (hn k a2 e)
      · exact O'.dis j k d e b b1 b2 (by rw [wipe_get a1]; exact s1) (by rw [wipe_get a2]; exact s2)
  sto := O'.sto
/-- how the turns have gone so far -/
structure Go (S : SG) (own : List Nat) (σ : L2.St) (ρ1 ρ' : En) (F1 H1 F' H' : Hp) : Prop where
  f : Sub F1 F'
  dom : ∀ a, H1 a ≠ none → H' a ≠ none
  keep : ∀ a o, H1 a = some o → a ≠ S.p → NoSlot σ ρ1 a → H' a = some o
  owns : ∀ (i : Nat) d, ρ'[i]? = some (.own d) → i ∉ own ∧ ∃ e, ρ1[i]? = some (.own e)
theorem Go.tr {own : List Nat} (hl : ρ1.length = ρ'.length) (hn : ∀ i ∈ own, ∀ d, ρ1[i]? ≠ some (.own d)) (g : Go S own σ ρ1 ρ' F1 H1 F' H') : Tr S ρ1 (backV ρ1 own ρ') σ F1 H1 F' H' where
  f := g.f
  dom := g.dom
  keep := g.keep
  owns := fun i d h => by
    rcases backV_get hl h with ⟨a, b⟩ | ⟨a, b⟩
    · exact absurd b (hn i a d)
    · exact (g.owns i d b).2
/-- one more step at the slots σ2 -/
theorem Go.step {own : List Nat} {σ2 : L2.St} {ρ2 ρ3 : En} {F2 H2 F3 H3 : Hp} (g : Go S own σ ρ1 ρ2 F1 H1 F2 H2) (hs : ∀ (i : Nat) d, ρ2[i]? = some (.own d) → σ2[i]? = σ[i]?) (t : Tr S ρ2 ρ3 σ2 F2 H2 F3 H3) : Go S own σ ρ1 ρ3 F1 H1 F3 H3 where
  f := g.f.trans t.f
  dom := fun a h => t.dom a (g.dom a h)
  keep := fun a o h hp n => t.keep a o (g.keep a o h hp n) hp fun i d e q => by
    obtain ⟨hi, e', hh⟩ := g.owns i d e
    rw [hs i d e] at q
    exact n i e' hh q
  owns := fun i d e => by
    obtain ⟨d', e'⟩ := t.owns i d e
    exact g.owns i d' e'
end
end
end VL
set_option maxHeartbeats 4000000
/-! VLi: comprehensions. -/
namespace VL
open PySem PySem.Spec PyProof.Rows L2
theorem wipe_in {σ : L2.St} : ∀ {is : List Nat} {j : Nat}, j ∈ is → (L2.wipe σ is)[j]? = if j < σ.length then some none else none
  | i :: is, j, h => by
    unfold L2.wipe
    by_cases e : i = j
    · subst e
      by_cases hl : i < σ.length
      · rw [List.getElem?_set_self (by rw [wipe_length]; exact hl), if_pos hl]
      · rw [if_neg hl]
        exact List.getElem?_eq_none (by rw [List.length_set, wipe_length]; omega)
    · rw [List.getElem?_set_ne e]
      rcases List.mem_cons.mp h with z | z
      · exact absurd z.symm e
      · exact wipe_in z
theorem wipe_congr {σ σ2 : L2.St} {is : List Nat} (hl : σ2.length = σ.length) (h : ∀ j, j ∉ is → σ2[j]? = σ[j]?) : L2.wipe σ2 is = L2.wipe σ is := by
  apply List.ext_getElem?
  intro j
  by_cases hj : j ∈ is
  · rw [wipe_in hj, wipe_in hj, hl]
  · rw [wipe_get hj, wipe_get hj, h j hj]
section
variable {C : CT} {Γ : Nat → VSp} {X : Cx} {cc : CC} {W : WP}
abbrev X0 : VL.XK := fun _ _ => False
/-- a comprehension's turn -/
def cstep (Γ : Nat → VSp) (elt : VE) (g : VG) (ifs : VC) : D → En → EK → (En → Prop) → Prop := fun d ρ2 Ka Ks => wG g (.val d) ρ2 fun ρ3 => wC Γ ifs ρ3 (fun c ρ4 => (c = true → wE Γ elt ρ4 Ka X0) ∧ (c = false → Ks ρ4)) X0
structure CState (C : CT) (Γ : Nat → VSp) (S : SG) (F0 H0 : Hp) (own : List Nat) (σ : L2.St) (ρ1 : En) (F1 H1 : Hp) (D : Addr) (elt : VE) (g : VG) (ifs : VC) (ds : List VL.D) (K : List VL.D → En → Prop) (i : Nat) (H : Hp) (F' : Hp) (ρ' : En) (acc : List VL.D) (vs : List V) : Prop where
  ok : OK C S F0 H0 F' H (L2.wipe σ own) ρ'
  go : Go S own σ ρ1 ρ' F1 H1 F' H
  fD : F' D = none
  nD : NoSlot (L2.wipe σ own) ρ' D
  zD : H D = some (.lst vs)
  rA : Reps C S F' acc vs
  c : compL own (cstep Γ elt g ifs) (ds.drop i) acc ρ' K
theorem lc_imp {own : List Nat} {elt : VE} {g : VG} {it : VI} {ifs : VC} (hsub : ∀ j ∈ g.slots, j ∈ own) (σ : L2.St) (H : Hp) (Q : VK) (h : tE C Γ W (.comp own elt g it ifs) σ H Q) :
    tLc (tI C Γ W it) (tG C g) (tCo C Γ W.no ifs) (tE C Γ W.no elt) own σ H Q := by
  obtain ⟨S, F0, H0, F, ρ, K, E, O, hw, hx, gg⟩ := h
  unfold wE at hw
  refine ⟨S, F0, H0, F, ρ, _, E, O, hw, hx, fun ds ρ1 J F1 H1 O1 t1 wk hk => ?_⟩
  obtain ⟨hno, hk⟩ := noOwn_iff hk
  have hk : compL own (cstep Γ elt g ifs) ds [] (wipeV own ρ1) (fun acc ρ5 => K (.tmp (.lst acc)) (backV ρ1 own ρ5)) := hk
  intro D hD
  obtain ⟨n0, np, nF⟩ := O1.new hD
  have nF0 : F0 D = none := by
    cases q : F0 D with
    | none => rfl
    | some o => rw [O1.f0 D o q] at nF; cases nF
  refine ⟨fun i m H => m = ds.length - i ∧ i ≤ ds.length ∧ ∃ F' ρ' acc vs, CState C Γ S F0 H0 own σ ρ1 F1 H1 D elt g ifs ds (fun acc ρ5 => K (.tmp (.lst acc)) (backV ρ1 own ρ5)) i H F' ρ' acc vs,
    ⟨ds.length, by simp, Nat.zero_le _, F1, wipeV own ρ1, [], [], ⟨(O1.wipe own).newO hD _, ⟨Sub.refl F1, fun a ha => ?_, fun a o ha _ _ => (Sub.upd hD) a o ha, fun i d e => ?_⟩, nF, (O1.wipe own).noslot hD, upd_same, .nil, hk⟩⟩, ?_⟩
  · have hx : a ≠ D := fun z => by subst z; exact ha hD
    rw [upd_ne hx]; exact ha
  · obtain ⟨a, b⟩ := wipeV_own e
    exact ⟨b, d, a⟩
  rintro i m H ⟨rfl, hi, F', ρ', acc, vs, st⟩
  have s : Sub F1 F' := st.go.f
  by_cases hlt : i < ds.length
  · refine .inr ⟨wk.go i H (s.trans st.ok.sub) hlt, fun H' => ∃ F' ρ' acc vs, CState C Γ S F0 H0 own σ ρ1 F1 H1 D elt g ifs ds (fun acc ρ5 => K (.tmp (.lst acc)) (backV ρ1 own ρ5)) (i + 1) H' F' ρ' acc vs,
      fun H' h => ⟨ds.length - (i + 1), by omega, rfl, hlt, h⟩, fun x Hy y => ?_⟩
    have hdr : ds.drop i = ds[i] :: ds.drop (i + 1) := List.drop_eq_getElem_cons hlt
    have hc := st.c
    rw [hdr] at hc
    have hc : cstep Γ elt g ifs ds[i] ρ' (fun r ρ1' => r.lv ρ1' (acc.length < lim ∧ compL own (cstep Γ elt g ifs) (ds.drop (i + 1)) (acc ++ [r.d]) (wipeV own (r.fz ρ1')) (fun acc ρ5 => K (.tmp (.lst acc)) (backV ρ1 own ρ5))))
        (fun ρ1' => compL own (cstep Γ elt g ifs) (ds.drop (i + 1)) acc (wipeV own ρ1') (fun acc ρ5 => K (.tmp (.lst acc)) (backV ρ1 own ρ5))) := hc
    -- the turn's datum
    have yy : ∃ F2, OK C S F0 H0 F2 Hy (L2.wipe σ own) ρ' ∧ Sub F' F2 ∧ Go S own σ ρ1 ρ' F1 H1 F2 Hy ∧ F2 D = none ∧ Hy D = some (.lst vs) ∧ Rep C S F2 ds[i] x := by
      rcases wk.yld i H x Hy ds[i] (s.trans st.ok.sub) (List.getElem?_eq_getElem hlt) y with ⟨e, rx⟩ | ⟨T, ts, es, e1, hT, e2, e3, rt⟩
      · subst e
        exact ⟨F', st.ok, Sub.refl F', st.go, st.fD, st.zD, rx.mono s⟩
      · subst e1 e2
        have hDT : D ≠ T := ne_of_none st.zD hT
        have nT := st.ok.new hT
        refine ⟨upd F' T (.tup ts), st.ok.newF hT _, Sub.upd nT.2.2, st.go.step (σ2 := L2.wipe σ own) (fun i d e => wipe_get (st.go.owns i d e).1) (Tr.newF hT nT.2.2 _), by rw [upd_ne hDT]; exact st.fD, by rw [upd_ne hDT]; exact st.zD, ?_⟩
        rw [e3]
        exact ⟨T, ts, rfl, upd_same, rt.mono (s.trans (Sub.upd nT.2.2))⟩
    obtain ⟨F2, O2, s2, go2, fD2, zD2, rx⟩ := yy
    have O3 := O2.rebase zD2 n0 fD2 st.nD np
    refine ⟨S, F0, upd H0 D (.lst vs), F2, ρ', .val ds[i], _, O3, rx, trivial, hc, fun σ2 ρ3 F3 O4 s4 l4 k4 w4 hk4 => ?_⟩
    have w4 := w4 _ rfl
    have hwi : L2.wipe σ2 own = L2.wipe σ own := by
      refine wipe_congr (by rw [l4, wipe_length]) fun j hj => ?_
      rw [k4 j fun z => hj (hsub j z), wipe_get hj]
    have goT : Go S own σ ρ1 ρ3 F1 H1 F3 Hy := ⟨go2.f.trans s4, go2.dom, go2.keep, fun j d e => go2.owns j d (w4 j d e).1⟩
    have hs3 : ∀ (j : Nat) d, ρ3[j]? = some (.own d) → σ2[j]? = σ[j]? := fun j d e => by
      rw [(w4 j d e).2, wipe_get (go2.owns j d (w4 j d e).1).1]
    refine ⟨hwi, S, F0, upd H0 D (.lst vs), F3, ρ3, _, X0, O4, hk4, ⟨hx.1, fun _ _ _ _ _ _ _ _ _ z => z.elim⟩, fun b ρ4 F5 H5 O5 t5 hk5 => ?_⟩
    have go5 := goT.step hs3 t5
    have hs5 : ∀ (j : Nat) d, ρ4[j]? = some (.own d) → σ2[j]? = σ[j]? := fun j d e => by
      obtain ⟨d', e'⟩ := t5.owns j d e
      exact hs3 j d' e'
    cases b with
    | true =>
      refine L2.iteT ?_
      refine ⟨S, F0, upd H0 D (.lst vs), F5, ρ4, _, X0, O5, hk5.1 rfl, ⟨hx.1, fun _ _ _ _ _ _ _ _ _ z => z.elim⟩, fun r ρ6 w F6 H6 O6 t6 q6 f6 hk6 => ?_⟩
      obtain ⟨F7, O7, t7, r7, hz, hc'⟩ := freeze O6 q6 hk6
      obtain ⟨O8, fD8, zD8, nD8⟩ := O7.unbase (fun _ z => nomatch z) n0 nF0 np
      have hs6 : ∀ (j : Nat) d, ρ6[j]? = some (.own d) → σ2[j]? = σ[j]? := fun j d e => by
        obtain ⟨d', e'⟩ := t6.owns j d e
        exact hs5 j d' e'
      have go7 := (go5.step hs5 t6).step hs6 t7
      have rA7 : Reps C S F7 acc vs := st.rA.mono (s2.trans (s4.trans (t5.f.trans (t6.f.trans t7.f))))
      refine ⟨vs, zD8, by rw [rA7.len]; exact lim_lt hz, F7, wipeV own (r.fz ρ6), acc ++ [r.d], vs ++ [w], ⟨?_, ⟨go7.f, fun a ha => ?_, fun a o ha hp nn => ?_, fun j d e => ?_⟩, fD8, fun j d e q => ?_, upd_same, rA7.app (.cons r7 .nil), hc'⟩⟩
      · have := (O8.updFree (u := .lst (vs ++ [w])) n0 fD8 nD8 np).wipe own
        rw [hwi] at this
        exact this
      · have hx : a ≠ D := fun z => by subst z; exact ha hD
        rw [upd_ne hx]; exact go7.dom a ha
      · have hx : a ≠ D := fun z => by subst z; rw [hD] at ha; cases ha
        rw [upd_ne hx]; exact go7.keep a o ha hp nn
      · obtain ⟨a, b⟩ := wipeV_own e
        exact ⟨b, (go7.owns j d a).2⟩
      · obtain ⟨a, b⟩ := wipeV_own e
        rw [← hwi, wipe_get b] at q
        exact nD8 j d a q
    | false =>
      refine L2.iteF ?_
      obtain ⟨O8, fD8, zD8, nD8⟩ := O5.unbase (fun _ z => nomatch z) n0 nF0 np
      have rA7 : Reps C S F5 acc vs := st.rA.mono (s2.trans (s4.trans t5.f))
      refine ⟨F5, wipeV own ρ4, acc, vs, ⟨?_, ⟨go5.f, go5.dom, go5.keep, fun j d e => ?_⟩, fD8, fun j d e q => ?_, zD8, rA7, hk5.2 rfl⟩⟩
      · have := O8.wipe own
        rw [hwi] at this
        exact this
      · obtain ⟨a, b⟩ := wipeV_own e
        exact ⟨b, (go5.owns j d a).2⟩
      · obtain ⟨a, b⟩ := wipeV_own e
        rw [← hwi, wipe_get b] at q
        exact nD8 j d a q
  · have e : i = ds.length := by omega
    subst e
    have hc := st.c
    rw [List.drop_length] at hc
    have hl : ρ1.length = ρ'.length := by rw [O1.len, st.ok.len, wipe_length]
    refine .inl ⟨wk.stop H (s.trans st.ok.sub), gg (.tmp (.lst acc)) (backV ρ1 own ρ') (.ref D) F' H (O1.back hno st.ok s) (t1.trans (st.go.tr hl hno)) ⟨D, rfl, n0, np, fun j d q z => ?_, _, st.zD, vs, rfl, st.rA⟩ (fun b e => by cases e; exact st.fD) hc⟩
    rcases backV_get hl q with ⟨a, b⟩ | ⟨a, b⟩
    · exact hno j a d b
    · rw [← wipe_get (is := own) a] at z
      exact st.nD j d b z
theorem takesN0 {X : Cx} : L2N.Takes X (fun _ _ _ _ => False) := fun _ _ x => by
  obtain ⟨_, _, _, _, _, _, _, _, _, _, _, _, _, _, _, _, w⟩ := x
  exact w.elim
theorem Ctx.blk (cx : Ctx C Γ X cc W) (hcold : cc.hot = false) (s : Shared) (H : Hp) (scope : Scope) (cl : List (Str × Addr)) (c : Addr) (fp : List Addr) : Ctx C Γ (X.blk s H scope (compEnvC scope cl c X.env) fp) (cc.blk scope) W.no where
  hN := cx.hN
  sc := by
    show relS scope X.env.scope = relS scope cc.sc
    rw [cx.sc]
  fn := rfl
  nd := cx.nd
  K := cx.K
  cold := cx.cold
  hot := fun z => absurd (show cc.hot = true from z) (by rw [hcold]; decide)
  un := cx.un
  tk := takesN0
  po := PassesOwn.never
  fl := cx.fl
  ix := cx.ix
  fns := cx.fns
  cons := cx.cons
  blt := cx.blt
  mks := cx.mks
  ofl := cx.ofl
  mtd := cx.mtd
  itf := cx.itf
end
end VL
set_option maxHeartbeats 4000000
/-! VLia: own objects: made, their fields, methods, operators, calls, walks. -/
namespace VL
open PySem PySem.Spec PyProof.Rows L2
section
variable {C : CT} {Γ : Nat → VSp} {X : Cx} {cc : CC} {W : WP}
theorem plain_base {o : Expr} {m : Str} {env : PySem.Env} {w : Sem Value} (h : plainO o = true) : attributeBase o m env w = w := by
  cases o <;> first | rfl | cases h
theorem obj_at {S : SG} {F : Hp} {c : Nat} {fs : List D} {v : V} (h : Rep C S F (.obj c fs) v) : ∃ a dx vs, v = .ref a ∧ F a = some (.ins (C.cls c) dx ((C.fld c).zip vs)) ∧ vs.length = (C.fld c).length ∧ Reps C S F fs vs := by
  unfold Rep at h
  exact h
theorem View.obj {S : SG} {F H : Hp} {c : Nat} {fs : List D} {v : V} (h : View C S F H (.obj c fs) v) : Rep C S F (.obj c fs) v := h
/-! ### fields -/
theorem s_fldO (cx : Ctx C Γ X cc W) {x f : Str} {va : VE} {c i : Nat} {p pos : Pos} (hn : cc.ofl.lookup f = some (c, i)) (ha : PE X (.Name x p) (tE C Γ W va)) : PE X (.Attribute (.Name x p) f pos) (tE C Γ W (.fldO va c i)) := by
  obtain ⟨hl, hc, hno⟩ := cx.ofl f c i hn
  refine pe_imp (pe_fld ha rfl) ?_
  rintro σ H Q ⟨S, F0, H0, F, ρ, K, E, O, hw, hx, g⟩
  unfold wE at hw
  refine ⟨S, F0, H0, F, ρ, _, E, O, hw, hx, fun r1 ρ1 v1 F1 H1 O1 t1 q1 f1 hw1 => ?_⟩
  obtain ⟨fs, d, hd, hi, hk⟩ := hw1
  obtain ⟨w1, _⟩ := view_of O1 q1 f1.lv
  rw [hd] at w1
  obtain ⟨a, dx, vs, rfl, z, l, r⟩ := obj_at w1.obj
  obtain ⟨v, hv, rv⟩ := r.at hi
  exact ⟨a, _, dx, _, v, rfl, O1.sub _ _ z, hc, hno, (hl vs l).trans hv, g (.val d) ρ1 v F1 H1 O1 t1 rv trivial hk⟩

/-! ### an object is made -/
theorem pe_makeV {k : Nat} {f Cl : Addr} {fd : FuncData} {ps : List Str} {sp : Sp} {x : Str} {p pos : Pos} {e : Expr} {es : List Expr} {t : TA} (M : Mk X.K Cl f) (F : FnOk X.prog X.w X.K X.mg X.base (L2N.CX X.prog X.w) k f fd ps sp) (hr : Room (k + 1) X.A) (hg : Gl X x) (hm : X.mg x = some (.ref Cl)) (hb : Binds X.K fd ps [])
    (ha : PA X (e :: es) t) (hdb : (x == ("__debug__" : Str)) = false) (he : starEach (e :: es) X.env = (false, eval e X.env) :: starEach es X.env) (hpl : (backTo pos (starEach es X.env)).any (·.1) = false) :
    PE X (.Call (.Name x p) (e :: es) [] pos) (tMake Cl sp [] (fun _ _ _ => False) t) :=
  pe_make M F hr hg hm hb .nil (fun _ _ _ _ _ _ _ h => by
    obtain ⟨_, _, _, _, _, _, _, _, _, _, _, _, w⟩ := h
    exact w.elim) ha hdb he hpl
theorem del_upd {H : Hp} {a : Addr} {o : HO} (h : H a = none) : del (upd H a o) a = H := by
  funext b
  by_cases hb : b = a
  · subst hb; rw [del_same, h]
  · rw [del_ne hb, upd_ne hb]
theorem upd_del {H : Hp} {a : Addr} {o : HO} (h : H a = some o) : upd (del H a) a o = H := by
  funext b
  by_cases hb : b = a
  · subst hb; rw [upd_same, h]
  · rw [upd_ne hb, del_ne hb]
theorem s_mk (cx : Ctx C Γ X cc W) (hcold : cc.hot = false) {f : Expr → VE} (h : ∀ e, PE X e (tE C Γ W (f e))) {x : Str} {k : Nat} {e : Expr} {es : List Expr} {p pos : Pos} (hg : cc.gl x = true) (hf : cc.mks.lookup x = some k) (hs : noStars (e :: es) = true) :
    PE X (.Call (.Name x p) (e :: es) [] pos) (tE C Γ W (.call k (mapE f (e :: es)))) := by
  obtain ⟨c, lv, fi, fd, ps, F1, hr, M, hm, hb, hpo⟩ := cx.mks hcold x k hf
  have hs' := hs
  unfold noStars at hs'
  rw [List.all_cons, Bool.and_eq_true] at hs'
  refine pe_imp (pe_makeV M F1 hr (cx.glob hg) hm hb (s_args h hs) (okN_ok (CC.gl_okN hg)).1 (star_cons (by simpa using hs'.1)) (by rw [back_any]; exact star_plain hs'.2)) ?_
  rintro σ H Q ⟨S, F0, H0, F, ρ, K, E, O, hw, hx, g⟩
  unfold wE at hw
  refine ⟨S, F0, H0, F, ρ, _, E, O, hw, hx, fun rs ρ1 vs F1 H1 O1 t1 q1 l1 hk => fun a dx ha hdx hda => ?_⟩
  rw [List.append_nil]
  obtain ⟨lv, hk⟩ := lvs_iff.mp hk
  obtain ⟨F2, O2, t2, r2⟩ := freezes O1 q1 lv
  unfold VSp.run at hk
  obtain ⟨y, ey, hp, hpost, _⟩ := hk
  rw [ey] at r2
  have ha2 : upd H1 dx (.own a) a = none := by rw [upd_ne (Ne.symm hda)]; exact ha
  have O3 := O2.newO hdx (.own a)
  have t3 := (t1.trans t2).trans (Tr.newO (S := S) (ρ := fzs rs ρ1) (σ := σ) (F := F2) hdx (.own a))
  have hS : S.x = none := by
    have := hx.1
    rw [(cx.cold hcold).2] at this
    exact this
  refine ⟨S, F2, y, a, dx, vs, rfl, hS, upd_same, by rw [del_upd ha2]; exact O3.sub, by rw [del_upd ha2]; exact O3.sto, r2, hp, fun fs us F' H' hq he hz hl hr => ⟨rfl, ?_⟩⟩
  rw [del_upd ha2] at he
  have O4 := O3.call he
  have hn : del H' a a = none := del_same
  have O5 := O4.newF hn (.ins (C.cls c) dx ((C.fld c).zip us))
  rw [upd_del hz] at O5
  have t5 := (t3.trans (he.tr (σ := σ) (ρ := fzs rs ρ1))).trans (Tr.newF (S := S) (ρ := fzs rs ρ1) (σ := σ) hn (O4.new hn).2.2 (.ins (C.cls c) dx ((C.fld c).zip us)))
  rw [upd_del hz] at t5
  have hk := hpost false _ hq
  refine g (.val (.obj c fs)) _ _ _ _ O5 t5 ?_ trivial hk
  show Rep C S _ (.obj c fs) (.ref a)
  unfold Rep
  exact ⟨a, dx, us, rfl, upd_same, hl, hr.mono (Sub.upd (O4.new hn).2.2)⟩

/-! ### methods -/
theorem meth_eq {o : Expr} {m : Str} {apos pos : Pos} {args : List Expr} {env : PySem.Env} (hbase : attributeBase o m env (eval o env) = eval o env)
    (hfew : ((backTo pos (starEach args env)).all (fun x => !x.1) && (backToKw pos (keywordEach [] env)).all (fun x => x.1.isSome)
      && decide (args.length + ([] : List Keyword).length + (if ([] : List Keyword).isEmpty then 0 else 1) < 30)) = true) (hline : (apos.endLine == pos.line) = true) :
    eval (.Call (.Attribute o m apos) args [] pos) env = (do
      let ov ← eval o env
      standAt apos.atName
      let (f, first) ← holding [ov] (getMethod ov m (do return (← importBound o env).getD true))
      callWith pos f first (backTo pos (starEach args env)) (backToKw pos (keywordEach [] env))) := by
  have hform : methodCallForm (args.length + ([] : List Keyword).length) (backTo pos (starEach args env)) (backToKw pos (keywordEach [] env)) = true := hfew
  have hpos : methodCallPos true o env apos pos = pure pos := by unfold methodCallPos; simp [hline]
  rw [arm_eval_Call, hbase]
  unfold methodCall
  rw [hform, hpos]
  rfl
theorem pe_methV {CX : CXT} {k : Nat} {Cl f : Addr} {fd : FuncData} {ps : List Str} {sp : Sp} {E : L2.St → L2.XK} {o e : Expr} {es : List Expr} {m : Str} {ta : TE} {t : TA} {apos pos : Pos} {pl : Sem Bool} (he : PE X o ta) (c : Cls X.K Cl) (hm : Meth X.K Cl m f) (F : FnOk X.prog X.w X.K X.mg X.base CX k f fd ps sp) (hr : Room k X.A) (hb : Binds X.K fd ps []) (hx : ∀ σ, PassesAt CX X σ (E σ)) (ha : PA X (e :: es) t)
    (hst : starEach (e :: es) X.env = (false, eval e X.env) :: starEach es X.env) (hpl : (backTo pos (starEach es X.env)).any (·.1) = false)
    (ht : eval (.Call (.Attribute o m apos) (e :: es) [] pos) X.env = (do
      let ov ← eval o X.env
      standAt apos.atName
      let (f, first) ← holding [ov] (getMethod ov m pl)
      callWith pos f first (backTo pos (starEach (e :: es) X.env)) (backToKw pos (keywordEach [] X.env)))) :
    PE X (.Call (.Attribute o m apos) (e :: es) [] pos) (fun σ H Q => ta σ H fun x H1 => ∃ a dx fs, x = .ref a ∧ H1 a = some (.ins Cl dx fs) ∧ fs.lookup m = none ∧ t σ H1 fun vs H2 => sp (x :: vs) H2 Q (E σ)) := by
  refine ⟨fun pins s σ H Q I h => ?_⟩
  refine PySem.W.methodCall_KW (pl := pl) (thn (he.run pins s σ H _ I h) fun u s1 ⟨x, H1, I1, rx, a, dx, fs, ex, ea, l, q⟩ => ?_) ht
  subst ex
  obtain rfl : u = Value.ref a := rx
  refine getmeth_ok I1 ea c hm l ?_
  refine PySem.W.callWith_K (first := [.ref a]) (h₀ := X.base) I.ok.mod.kin hm.kp (thn (ha.run pos pins s1 σ H1 _ I1 q) fun us s2 ⟨vs, H2, I2, r, q2⟩ => ⟨I2.kIn, ?_⟩) hst hpl
  exact run_fnS (us := .ref a :: us) (vs := .ref a :: vs) F hr hb (hx σ) I2 (.cons rfl r) q2
theorem pe_methV0 {CX : CXT} {k : Nat} {Cl f : Addr} {fd : FuncData} {ps : List Str} {sp : Sp} {E : L2.St → L2.XK} {o : Expr} {m : Str} {ta : TE} {apos pos : Pos} {pl : Sem Bool} (he : PE X o ta) (c : Cls X.K Cl) (hm : Meth X.K Cl m f) (F : FnOk X.prog X.w X.K X.mg X.base CX k f fd ps sp) (hr : Room k X.A) (hb : Binds X.K fd ps []) (hx : ∀ σ, PassesAt CX X σ (E σ))
    (ht : eval (.Call (.Attribute o m apos) [] [] pos) X.env = (do
      let ov ← eval o X.env
      standAt apos.atName
      let (f, first) ← holding [ov] (getMethod ov m pl)
      callWith pos f first (backTo pos (starEach [] X.env)) (backToKw pos (keywordEach [] X.env)))) :
    PE X (.Call (.Attribute o m apos) [] [] pos) (fun σ H Q => ta σ H fun x H1 => ∃ a dx fs, x = .ref a ∧ H1 a = some (.ins Cl dx fs) ∧ fs.lookup m = none ∧ sp [x] H1 Q (E σ)) := by
  refine ⟨fun pins s σ H Q I h => ?_⟩
  refine PySem.W.methodCall_KW (pl := pl) (thn (he.run pins s σ H _ I h) fun u s1 ⟨x, H1, I1, rx, a, dx, fs, ex, ea, l, q⟩ => ?_) ht
  subst ex
  obtain rfl : u = Value.ref a := rx
  refine getmeth_ok I1 ea c hm l ?_
  exact PySem.W.callWith_K0 (first := [.ref a]) I1.kIn hm.kp (run_fnS (us := [.ref a]) (vs := [.ref a]) F hr hb (hx σ) I1 (.cons rfl .nil) q)
theorem s_mcl (cx : Ctx C Γ X cc W) (hcold : cc.hot = false) {f : Expr → VE} (h : ∀ e, PE X e (tE C Γ W (f e))) {o : Expr} {m : Str} {c k : Nat} {args : List Expr} {ap cp : Pos} (hb : plainO o = true) (hm : cc.mtd.lookup m = some (c, k)) (hs : noStars args = true) (hl : args.length ≤ 20) (hline : (ap.endLine == cp.line) = true) :
    PE X (.Call (.Attribute o m ap) args [] cp) (tE C Γ W (.mcl c k (f o) (mapE f args))) := by
  obtain ⟨lv, fa, fd, ps, ⟨F, hr⟩, hM, hC, hB, hno, _⟩ := cx.mtd hcold m c k hm
  cases args with
  | nil =>
    refine pe_imp (pe_methV0 (E := WE W.w) (h o) hC hM F hr hB (L2N.passAt cx.tk) (meth_eq (plain_base hb) (few hs hl) hline)) ?_
    rintro σ H Q ⟨S, F0, H0, F, ρ, K, E, O, hw, hx, g⟩
    unfold wE at hw
    refine ⟨S, F0, H0, F, ρ, _, E, O, hw, hx, fun r1 ρ1 v1 F1 H1 O1 t1 q1 f1 hw1 => ?_⟩
    obtain ⟨fs, er, hk⟩ := hw1
    subst er
    obtain ⟨a, dx, vs, rfl, z, l, r⟩ := obj_at (show Rep C S F1 (.obj c fs) v1 from q1)
    unfold mapE wEs at hk
    exact ⟨a, dx, _, rfl, O1.sub _ _ z, hno vs, call_core (k := k) (rs := [.val (.obj c fs)]) (vs := [.ref a]) hx g O1 t1 ⟨_, _, rfl, q1, rfl⟩ hk _ (fun S h => (cx.cold hcold).2 ▸ h)⟩
  | cons e es =>
    have hs' := hs
    unfold noStars at hs'
    rw [List.all_cons, Bool.and_eq_true] at hs'
    refine pe_imp (pe_methV (E := WE W.w) (h o) hC hM F hr hB (L2N.passAt cx.tk) (s_args h hs) (star_cons (by simpa using hs'.1)) (by rw [back_any]; exact star_plain hs'.2) (meth_eq (plain_base hb) (few hs hl) hline)) ?_
    rintro σ H Q ⟨S, F0, H0, F, ρ, K, E, O, hw, hx, g⟩
    unfold wE at hw
    refine ⟨S, F0, H0, F, ρ, _, E, O, hw, hx, fun r1 ρ1 v1 F1 H1 O1 t1 q1 f1 hw1 => ?_⟩
    obtain ⟨fs, er, hk⟩ := hw1
    subst er
    obtain ⟨a, dx, vs, rfl, z, l, r⟩ := obj_at (show Rep C S F1 (.obj c fs) v1 from q1)
    refine ⟨a, dx, _, rfl, O1.sub _ _ z, hno vs, S, F0, H0, F1, ρ1, _, E, O1, hk, hx, fun rs ρ2 ws F2 H2 O2 t2 q2 l2 hk2 => ?_⟩
    exact call_core (k := k) (rs := .val (.obj c fs) :: rs) (vs := .ref a :: ws) hx g O2 (t1.trans t2) ⟨_, _, rfl, RRep.tr (r := .val (.obj c fs)) q1 t2, q2⟩ hk2 _ (fun S h => (cx.cold hcold).2 ▸ h)

/-! ### operators -/
theorem s_binO (cx : Ctx C Γ X cc W) (hcold : cc.hot = false) {a b : Expr} {op : Operator} {pos : Pos} {va vb : VE} {m : Str} {c k : Nat} (hd : dunder op = some m) (hm : cc.mtd.lookup m = some (c, k)) (ha : PE X a (tE C Γ W va)) (hb : PE X b (tE C Γ W vb)) : PE X (.BinOp a op b pos) (tE C Γ W (.binO op c k va vb)) := by
  obtain ⟨lv, fa, fd, ps, ⟨F, hr⟩, hM, hC, hB, hno, hsf, _⟩ := cx.mtd hcold m c k hm
  have hdun : PySem.dunder op.info.2 = m := by
    cases op <;> (cases hd) <;> rfl
  refine ⟨fun pins s σ H Q I q => ?_⟩
  obtain ⟨S, F0, H0, Fz, ρ, K, E, O, hw, hx, g⟩ := q
  unfold wE at hw
  refine wpAny_BinOp (binT ha hb (R := fun x y H2 => (∃ p q dx dy fs gs, x = .ref p ∧ y = .ref q ∧ H2 p = some (.ins (C.cls c) dx fs) ∧ H2 q = some (.ins (C.cls c) dy gs) ∧ lift C Cold (Γ k) [x, y] H2 Q (WE W.w σ)) ∨ rBin C op x y H2 Q) I ?_ fun v u s2 x y H2 I2 rx ry hR => ?_)
  · refine ⟨S, F0, H0, Fz, ρ, _, E, O, hw, hx, fun r1 ρ1 v1 F1 H1 O1 t1 q1 f1 hw1 => ⟨S, F0, H0, F1, ρ1, _, E, O1, hw1, hx, fun r2 ρ2 v2 F2 H2 O2 t2 q2 f2 hk => ?_⟩⟩
    obtain ⟨l1, hk⟩ := lv_iff.mp hk
    unfold objs2 at hk
    split at hk
    · rename_i c' f _
      split at hk
      · rename_i c'' f' _
        obtain ⟨⟨rfl, rfl⟩, hk⟩ := hk
        have q1' : Rep C S F2 (.obj _ f) v1 := RRep.tr (r := .val (.obj _ f)) q1 t2
        obtain ⟨p, dx, vs, rfl, z, l, r⟩ := obj_at q1'
        obtain ⟨q, dy, us, rfl, z2, l2, r2⟩ := obj_at (show Rep C S F2 (.obj _ f') v2 from q2)
        exact .inl ⟨p, q, dx, dy, _, _, rfl, rfl, O2.sub _ _ z, O2.sub _ _ z2, call_core (rs := [.val (.obj _ f), .val (.obj _ f')]) (vs := [.ref p, .ref q]) hx g O2 (t1.trans t2) ⟨_, _, rfl, q1', _, _, rfl, q2, rfl⟩ (by
          show (Γ k).run _ (fun o d => K _ (if d.lf then ρ2 else ρ2)) _
          simp only [ite_self]
          exact hk) _ (fun S h => (cx.cold hcold).2 ▸ h)⟩
      · exact hk.elim
    · obtain ⟨w1, _⟩ := view_of (P := True) O2 (q1.tr t2) l1
      obtain ⟨w2, _⟩ := view_of O2 q2 f2.lv
      exact .inr ⟨S, F0, H0, F2, σ, ρ2, _, _, _, O2, w1, w2, hk, fun r v F' H' O' t' q' f' hk' => g r ρ2 v F' H' O' ((t1.trans t2).trans t') q' f' hk'⟩
  · rcases hR with ⟨p, q, dx, dy, fs, gs, rfl, rfl, hp, hq, hl⟩ | hR
    · cases (show v = Value.ref p from rx)
      cases (show u = Value.ref q from ry)
      obtain ⟨mA, J, _⟩ := ins_get I2.hok hp
      obtain ⟨od, J, _⟩ := J.look
      obtain ⟨mB, J', _⟩ := ins_get I2.hok hq
      obtain ⟨od', J', _⟩ := J'.look
      obtain ⟨m0, hF⟩ := I2.fr
      refine PySem.W.binop_K hF I2.ok.mod.kin J J'.type hsf (f := fa) (by rw [hdun]; exact hM.at_) hM.fn ?_
      refine wpAny_mono (run_fnS (us := [.ref p, .ref q]) (vs := [.ref p, .ref q]) F hr hB (L2N.passAt cx.tk σ) I2 (.cons rfl (.cons rfl .nil)) hl) (fun w s' z => ?_) fun _ _ x => x
      obtain ⟨z', H', I', rz, qz⟩ := z
      exact SlX.cmpback rz ⟨z', H', I', rz, qz⟩
    · exact op_bin cx.K op pins s2 σ H2 x y v u Q I2 rx ry hR
theorem s_negO (cx : Ctx C Γ X cc W) (hcold : cc.hot = false) {a : Expr} {pos : Pos} {va : VE} {c k : Nat} (hm : cc.mtd.lookup ("__neg__" : Str) = some (c, k)) (ha : PE X a (tE C Γ W va)) : PE X (.UnaryOp .USub a pos) (tE C Γ W (.negO c k va)) := by
  obtain ⟨lv, fa, fd, ps, ⟨F, hr⟩, hM, hC, hB, hno, hsf, _⟩ := cx.mtd hcold _ c k hm
  refine ⟨fun pins s σ H Q I q => ?_⟩
  obtain ⟨S, F0, H0, Fz, ρ, K, E, O, hw, hx, g⟩ := q
  unfold wE at hw
  refine UnaryOp_ (thn (ha.run pins s σ H (fun x H2 => (∃ p dx fs, x = .ref p ∧ H2 p = some (.ins (C.cls c) dx fs) ∧ lift C Cold (Γ k) [x] H2 Q (WE W.w σ)) ∨ ∃ (S : SG) (F : Hp) (d : D), View C S F H2 d x ∧ vNeg d fun e => ∀ v, Rep C S F e v → Q v H2) I ?_) fun v s2 ⟨x, H2, I2, rx, hR⟩ => ?_)
  · refine ⟨S, F0, H0, Fz, ρ, _, E, O, hw, hx, fun r1 ρ1 v1 F1 H1 O1 t1 q1 f1 hk => ?_⟩
    have hk : obj1 r1 c _ _ := hk
    unfold obj1 at hk
    split at hk
    · rename_i c' f _
      obtain ⟨rfl, hk⟩ := hk
      obtain ⟨p, dx, vs, rfl, z, l, r⟩ := obj_at (show Rep C S F1 (.obj _ f) v1 from q1)
      exact .inl ⟨p, dx, _, rfl, O1.sub _ _ z, call_core (rs := [.val (.obj _ f)]) (vs := [.ref p]) hx g O1 t1 ⟨_, _, rfl, q1, rfl⟩ (by
          show (Γ k).run _ (fun o d => K _ (if d.lf then ρ1 else ρ1)) _
          simp only [ite_self]
          exact hk) _ (fun S h => (cx.cold hcold).2 ▸ h)⟩
    · obtain ⟨w1, _⟩ := view_of O1 q1 f1.lv
      exact .inr ⟨S, F1, r1.d, w1, vNeg_mono (fun d hk v r => g (.val d) ρ1 v F1 H1 O1 t1 r trivial hk) hk⟩
  · rcases hR with ⟨p, dx, fs, rfl, hp, hl⟩ | hR
    · cases (show v = Value.ref p from rx)
      obtain ⟨mA, J, _⟩ := ins_get I2.hok hp
      obtain ⟨od, J, _⟩ := J.look
      obtain ⟨m0, hF⟩ := I2.fr
      exact PySem.W.ksp_neg hF I2.ok.mod.kin J hM.at_ hM.fn (run_fnS (us := [.ref p]) (vs := [.ref p]) F hr hB (L2N.passAt cx.tk σ) I2 (.cons rfl .nil) hl)
    · exact un_negV (C := C) pins s2 σ H2 x v Q I2 rx hR

theorem VSp.run_mono {s : VSp} {ds : List D} {K K' : Bool → D → Prop} {E : Exc → Prop} (h : s.run ds K E) (hk : ∀ o d, K o d → K' o d) : s.run ds K' E := by
  unfold VSp.run at h ⊢
  obtain ⟨x, e, p, a, b⟩ := h
  exact ⟨x, e, p, fun o d q => hk o d (a o d q), b⟩
/-- a def's datum that has no parts -/
theorem rrep_scal {S : SG} {H0 F H : Hp} {σ : L2.St} {ρ : En} {r : R} {v : V} (O : OK C S F0 H0 F H σ ρ) (h : RRep C S H0 F H σ ρ r v) (f : RFresh F ρ r v) (hs : r.d.scal = true) : Rep C S F r.d v := by
  obtain ⟨w, _⟩ := view_of O h f.lv
  exact scal_view hs w
theorem run_eqO (cx : Ctx C Γ X cc W) (hcold : cc.hot = false) {c k : Nat} (hm : cc.mtd.lookup ("__eq__" : Str) = some (c, k)) {pins : List (Addr × Obj)} {s : Shared} {σ : L2.St} {H : Hp} {x y : V} {v u : Value} {Q : VK} (I : Inv X pins σ H s) (rx : RelV x v) (ry : RelV y u)
    (h : (∃ p q dx dy fs gs, x = .ref p ∧ y = .ref q ∧ H p = some (.ins (C.cls c) dx fs) ∧ H q = some (.ins (C.cls c) dy gs) ∧ lift C Cold (Γ k) [x, y] H Q (WE W.w σ)) ∨ rCmp C .Eq x y H Q) : wpAny (model X.prog X.w) X.A (compareOp .Eq v u) (EP X pins σ Q) X.xe s := by
  obtain ⟨lv, fa, fd, ps, ⟨F, hr⟩, hM, hC, hB, hno, hsf, hnf, _⟩ := cx.mtd hcold _ c k hm
  rcases h with ⟨p, q, dx, dy, fs, gs, rfl, rfl, hp, hq, hl⟩ | hR
  · cases (show v = Value.ref p from rx)
    cases (show u = Value.ref q from ry)
    obtain ⟨mA, J, _⟩ := ins_get I.hok hp
    obtain ⟨od, J, _⟩ := J.look
    obtain ⟨mB, J', _⟩ := ins_get I.hok hq
    obtain ⟨od', J', _⟩ := J'.look
    obtain ⟨m0, hF⟩ := I.fr
    show wpAny _ _ (richCompare .Eq _ _) _ _ _
    refine PySem.W.cmp_K (op := .Eq) hr.units0 hF I.ok.mod.kin J J'.type hnf (f := fa) hM.at_ hM.fn ?_
    refine wpAny_mono (run_fnS (us := [.ref p, .ref q]) (vs := [.ref p, .ref q]) F hr hB (L2N.passAt cx.tk σ) I (.cons rfl (.cons rfl .nil)) hl) (fun w s' z => ?_) fun _ _ x => x
    obtain ⟨z', H', I', rz, qz⟩ := z
    exact SlX.cmpback rz ⟨z', H', I', rz, qz⟩
  · exact op_cmpV cx.K cx.un .Eq pins s σ H x y v u Q I rx ry hR
/-- what == asks of its two sides -/
theorem eqO_core (cx : Ctx C Γ X cc W) (hcold : cc.hot = false) {c k : Nat} {S : SG} {F0 H0 F H F1 H1 F2 H2 : Hp} {σ : L2.St} {ρ ρ1 ρ2 : En} {K : EK} {E : VL.XK} {Q : VK} {r1 r2 : R} {v1 v2 : V} (hx : XOK C S F0 H0 W E) (g : Cont C S F0 H0 σ ρ F H (fun r ρ => ∃ b, r = .val (.bl b) ∧ K r ρ) Q) (t1 : Tr S ρ ρ1 σ F H F1 H1) (q1 : RRep C S H0 F1 H1 σ ρ1 r1 v1) (O2 : OK C S F0 H0 F2 H2 σ ρ2) (t2 : Tr S ρ1 ρ2 σ F1 H1 F2 H2) (q2 : RRep C S H0 F2 H2 σ ρ2 r2 v2) (f2 : RFresh F2 ρ2 r2 v2)
    (hk : r1.lv ρ2 (objs2 r1 r2 c (fun f g => (Γ k).run [.obj c f, .obj c g] (fun _ d => ∃ b, d = .bl b ∧ K (.val (.bl (if false = true then !b else b))) ρ2) fun x => E x ρ2) (vCmp (if false = true then .NotEq else .Eq) r1.d r2.d fun c => K (.val (.bl c)) ρ2))) :
    (∃ p q dx dy fs gs, v1 = .ref p ∧ v2 = .ref q ∧ H2 p = some (.ins (C.cls c) dx fs) ∧ H2 q = some (.ins (C.cls c) dy gs) ∧ lift C Cold (Γ k) [v1, v2] H2 Q (WE W.w σ)) ∨ rCmp C .Eq v1 v2 H2 Q := by
  obtain ⟨l1, hk⟩ := lv_iff.mp hk
  simp only [Bool.false_eq_true, if_false] at hk
  unfold objs2 at hk
  split at hk
  · rename_i c' f _
    split at hk
    · rename_i c'' f' _
      obtain ⟨⟨rfl, rfl⟩, hk⟩ := hk
      have q1' : Rep C S F2 (.obj _ f) v1 := RRep.tr (r := .val (.obj _ f)) q1 t2
      obtain ⟨p, dx, vs, rfl, z, l, r⟩ := obj_at q1'
      obtain ⟨q, dy, us, rfl, z2, l2, r2⟩ := obj_at (show Rep C S F2 (.obj _ f') v2 from q2)
      refine .inl ⟨p, q, dx, dy, _, _, rfl, rfl, O2.sub _ _ z, O2.sub _ _ z2, call_core (K := fun r ρ => ∃ b, r.d = .bl b ∧ K (.val (.bl b)) ρ) (rs := [.val (.obj _ f), .val (.obj _ f')]) (vs := [.ref p, .ref q]) hx (fun r ρ' v F' H' O' t' q' f' hk' => ?_) O2 (t1.trans t2) ⟨_, _, rfl, q1', _, _, rfl, q2, rfl⟩ (by
          show (Γ k).run _ (fun o d => ∃ b, R.d _ = .bl b ∧ K _ (if d.lf then ρ2 else ρ2)) _
          simp only [ite_self]
          refine VSp.run_mono hk fun o d ⟨b, e, q⟩ => ⟨b, ?_, q⟩
          cases o <;> exact e) _ (fun S h => (cx.cold hcold).2 ▸ h)⟩
      obtain ⟨b, e, hk'⟩ := hk'
      have rv := rrep_scal O' q' f' (by rw [e]; rfl)
      rw [e] at rv
      exact g (.val (.bl b)) ρ' v F' H' O' t' rv trivial ⟨b, rfl, hk'⟩
    · exact hk.elim
  · obtain ⟨w1, _⟩ := view_of (P := True) O2 (q1.tr t2) l1
    obtain ⟨w2, _⟩ := view_of O2 q2 f2.lv
    exact .inr ⟨S, F2, _, _, O2.sub, w1, w2, vCmp_mono (fun b hb => g _ ρ2 _ F2 H2 O2 (t1.trans t2) rrep_bl trivial ⟨b, rfl, hb⟩) hk⟩
theorem s_cmpO (cx : Ctx C Γ X cc W) (hcold : cc.hot = false) {a b : Expr} {pos : Pos} {va vb : VE} {c k : Nat} (hm : cc.mtd.lookup ("__eq__" : Str) = some (c, k)) (hbm : behindInMarks .Eq b = false) (ha : PE X a (tE C Γ W va)) (hb : PE X b (tE C Γ W vb)) : PE X (.Compare a [.Eq] [b] pos) (tE C Γ W (.cmpO false c k va vb)) := by
  refine ⟨fun pins s σ H Q I q => ?_⟩
  obtain ⟨S, F0, H0, Fz, ρ, K, E, O, hw, hx, g⟩ := q
  unfold wE at hw
  refine wpAny_Compare1 (binT ha hb (R := fun x y H2 => (∃ p q dx dy fs gs, x = .ref p ∧ y = .ref q ∧ H2 p = some (.ins (C.cls c) dx fs) ∧ H2 q = some (.ins (C.cls c) dy gs) ∧ lift C Cold (Γ k) [x, y] H2 Q (WE W.w σ)) ∨ rCmp C .Eq x y H2 Q) I ?_ fun v u s2 x y H2 I2 rx ry hR => run_eqO cx hcold hm I2 rx ry hR) hbm
  refine ⟨S, F0, H0, Fz, ρ, _, E, O, hw, hx, fun r1 ρ1 v1 F1 H1 O1 t1 q1 f1 hw1 => ⟨S, F0, H0, F1, ρ1, _, E, O1, hw1, hx, fun r2 ρ2 v2 F2 H2 O2 t2 q2 f2 hk => ?_⟩⟩
  exact eqO_core cx hcold hx (fun r ρ' v F' H' O' t' q' f' ⟨b, _, hk'⟩ => g r ρ' v F' H' O' t' q' f' hk') t1 q1 O2 t2 q2 f2 hk
theorem s_cmpOT (cx : Ctx C Γ X cc W) (hcold : cc.hot = false) {a b : Expr} {pos : Pos} {va vb : VE} {c k : Nat} (hm : cc.mtd.lookup ("__eq__" : Str) = some (c, k)) (hbm : behindInMarks .Eq b = false) (ha : PE X a (tE C Γ W va)) (hb : PE X b (tE C Γ W vb)) : PT X (.Compare a [.Eq] [b] pos) (tCo C Γ W (.tv (.cmpO false c k va vb))) := by
  refine ⟨fun pins s σ H Q I q => ?_⟩
  obtain ⟨S, F0, H0, Fz, ρ, K, E, O, hw, hx, g⟩ := q
  unfold wC wE at hw
  have main : tE C Γ W va σ H fun x H1 => tE C Γ W vb σ H1 fun y H2 => (∃ p q dx dy fs gs, x = .ref p ∧ y = .ref q ∧ H2 p = some (.ins (C.cls c) dx fs) ∧ H2 q = some (.ins (C.cls c) dy gs) ∧ lift C Cold (Γ k) [x, y] H2 (fun z H3 => ∃ b, z = .bl b ∧ Q b H3) (WE W.w σ)) ∨ rCmp C .Eq x y H2 (fun z H3 => ∃ b, z = .bl b ∧ Q b H3) := by
    refine ⟨S, F0, H0, Fz, ρ, _, E, O, hw, hx, fun r1 ρ1 v1 F1 H1 O1 t1 q1 f1 hw1 => ⟨S, F0, H0, F1, ρ1, _, E, O1, hw1, hx, fun r2 ρ2 v2 F2 H2 O2 t2 q2 f2 hk => ?_⟩⟩
    refine eqO_core (K := fun x ρ1 => truth x.d fun b => K b ρ1) cx hcold hx (fun r ρ' v F' H' O' t' q' f' ⟨b, e, hk'⟩ => ?_) t1 q1 O2 t2 q2 f2 hk
    subst e
    have rv : Rep C S F' (.bl b) v := q'
    unfold Rep at rv
    exact ⟨b, rv, g b ρ' F' H' O' t' hk'⟩
  refine wpAny_isTrue_Compare1 (thn (ha.run pins s σ H _ I main) fun v s1 ⟨x, H1, I1, r1, q1⟩ => thn (hb.run pins s1 σ H1 _ I1 q1) fun u s2 ⟨y, H2, I2, r2, q2⟩ =>
    thn (run_eqO cx hcold hm I2 r1 r2 q2) fun c s3 ⟨z, H3, I3, r3, k, e, q3⟩ => ?_) hbm
  subst e
  cases r3
  exact wpAny_truthy_bool ⟨H3, I3, q3⟩

/-- the callee runs, as code -/
theorem run_codeS {CX : CXT} {k : Nat} {f : Addr} {fd : FuncData} {ps : List Str} {sp : Sp} {E : L2.St → L2.XK} {A : Around} {pins : List (Addr × Obj)} {σ : L2.St} {H : Hp} {s : Shared} {Q : VK} {us : List Value} {vs : List V} (F : FnOk X.prog X.w X.K X.mg X.base CX k f fd ps sp) (hr : Room k A) (hA : A.frames = X.A.frames) (hb : Binds X.K fd ps []) (hx : PassesAt CX X σ (E σ))
    (I : Inv X pins σ H s) (r : Vals vs us) (h : sp vs H Q (E σ)) : codeAny (model X.prog X.w) A (.call (.ref f) ⟨us, []⟩) (fun r s' => match r with | .ok (.ret v) => EP X pins σ Q v s' | .ok _ => False | .error e => X.xe e s') s := by
  have hl : us.length = ps.length := by rw [← r.length]; exact F.len _ _ _ _ h
  have b := hb s us I.kIn (by rw [List.append_nil]; exact hl)
  rw [List.append_nil] at b
  have e0 : Env0 X.prog X.w X.K X.mg X.base A X.stack s H := by
    have e := I.env0
    exact ⟨by rw [hA]; exact e.frames, e.mod, e.bs, e.bsz, e.funs, e.frf, e.hok, e.bare⟩
  refine codeAny_mono (F.run A X.stack s H ⟨us, []⟩ us vs Q (E σ) hr e0 b r h) fun r s' hq => ?_
  cases r with
  | error e => exact hx pins H s e s' I hq
  | ok fl =>
    cases fl with
    | ret u => exact I.after hq
    | next => exact False.elim hq
    | brk => exact False.elim hq
    | cont => exact False.elim hq
/-! ### an object is called -/
theorem s_calO (cx : Ctx C Γ X cc W) (hcold : cc.hot = false) {f : Expr → VE} (h : ∀ e, PE X e (tE C Γ W (f e))) {x : Str} {c k i : Nat} {e : Expr} {es : List Expr} {p pos : Pos} (hv : cc.see x = true) (hi : ixOf x cc.N = some i) (hm : cc.mtd.lookup ("__call__" : Str) = some (c, k)) (hs : noStars (e :: es) = true) :
    PE X (.Call (.Name x p) (e :: es) [] pos) (tE C Γ W (.calO c k i (mapE f (e :: es)))) := by
  obtain ⟨lv, fa, fd, ps, ⟨F, hr⟩, hM, hC, hB, hno, hsf, hnf, hfi, _⟩ := cx.mtd hcold _ c k hm
  have hs' := hs
  unfold noStars at hs'
  rw [List.all_cons, Bool.and_eq_true] at hs'
  have ho : okN x = true := by
    unfold CC.see at hv
    rw [Bool.and_eq_true] at hv
    exact hv.1
  refine ⟨fun pins s σ H Q I q => ?_⟩
  obtain ⟨S, F0, H0, Fz, ρ, K, E, O, hw, hx, g⟩ := q
  unfold wE look at hw
  split at hw
  · rename_i d hd
    obtain ⟨fs, e0, hw⟩ := hw
    cases e0
    obtain ⟨v, e1, rv⟩ := O.val i _ hd
    obtain ⟨a, dx, vs, rfl, z, l, r⟩ := obj_at rv
    refine Call_ (thn ((pe_var (pos := p) (cx.slot hi) (cx.vis hv) (okN_ok ho).1 (okN_ok ho).2).run pins s σ H (fun v H1 => v = .ref a ∧ H1 = H) I ⟨.ref a, e1, rfl, rfl⟩) fun u s1 ⟨y, H1, I1, ry, ey, eH⟩ => ?_) rfl
    subst ey eH
    obtain rfl : u = Value.ref a := ry
    refine StX.callO_with (thn ((s_args h hs).run pos pins s1 σ H1 (fun ws H2 => (∃ dx fs, H2 a = some (.ins (C.cls c) dx fs)) ∧ lift C Cold (Γ k) (.ref a :: ws) H2 Q (WE W.w σ)) I1 ?_) fun us s2 ⟨ws, H2, I2, r2, ⟨dx', fs', hi2⟩, q2⟩ => ?_) (star_cons (by simpa using hs'.1)) (by rw [back_any]; exact star_plain hs'.2)
    · refine ⟨S, F0, H0, Fz, ρ, _, E, O, hw, hx, fun rs ρ2 ws F2 H2 O2 t2 q2 l2 hk2 => ?_⟩
      exact ⟨⟨dx, _, O2.sub _ _ (t2.f _ _ z)⟩, call_core (k := k) (rs := .val (.obj c fs) :: rs) (vs := .ref a :: ws) hx g O2 t2 ⟨_, _, rfl, Rep.mono t2.f _ _ rv, q2⟩ hk2 _ (fun S h => (cx.cold hcold).2 ▸ h)⟩
    · obtain ⟨ox, od, J, hd2⟩ := StX.insC_at I2 (.inr ⟨dx', fs', hi2⟩)
      exact ⟨⟨C.cls c, ox, od, J, hd2⟩, wpAny_call (PySem.W.kco_code I2.kIn J hd2 hM.at_ hM.fn hfi (run_codeS (E := WE W.w) (us := .ref a :: us) (vs := .ref a :: ws) F hr rfl hB (L2N.passAt cx.tk σ) I2 (.cons rfl r2) q2))⟩
  · obtain ⟨fs, e0, _⟩ := hw
    cases e0
  · exact hw.elim
/-- what a subscript gives is called -/
theorem s_calE (cx : Ctx C Γ X cc W) (hcold : cc.hot = false) {f : Expr → VE} (h : ∀ e, PE X e (tE C Γ W (f e))) {o ix : Expr} {c k : Nat} {e : Expr} {es : List Expr} {p pos : Pos} (hm : cc.mtd.lookup ("__call__" : Str) = some (c, k)) (hs : noStars (e :: es) = true) :
    PE X (.Call (.Subscript o ix p) (e :: es) [] pos) (tE C Γ W (.mcl c k (f (.Subscript o ix p)) (mapE f (e :: es)))) := by
  obtain ⟨lv, fa, fd, ps, ⟨F, hr⟩, hM, hC, hB, hno, hsf, hnf, hfi, _⟩ := cx.mtd hcold _ c k hm
  have hs' := hs
  unfold noStars at hs'
  rw [List.all_cons, Bool.and_eq_true] at hs'
  refine ⟨fun pins s σ H Q I q => ?_⟩
  obtain ⟨S, F0, H0, Fz, ρ, K, E, O, hw, hx, g⟩ := q
  unfold wE at hw
  refine Call_ (thn ((h (.Subscript o ix p)).run pins s σ H (fun v H1 => ∃ a, v = .ref a ∧ (tEs C Γ W (mapE f (e :: es))) σ H1 (fun ws H2 => (∃ dx fs, H2 a = some (.ins (C.cls c) dx fs)) ∧ lift C Cold (Γ k) (.ref a :: ws) H2 Q (WE W.w σ))) I ?_) fun u s1 ⟨y, H1, I1, ry, a, ey, q1⟩ => ?_) rfl
  · refine ⟨S, F0, H0, Fz, ρ, _, E, O, hw, hx, fun r1 ρ1 v1 F1 H1 O1 t1 q1 f1 hw1 => ?_⟩
    obtain ⟨fs, er, hk⟩ := hw1
    subst er
    obtain ⟨a, dx, vs, rfl, z, l, r⟩ := obj_at (show Rep C S F1 (.obj c fs) v1 from q1)
    refine ⟨a, rfl, S, F0, H0, F1, ρ1, _, E, O1, hk, hx, fun rs ρ2 ws F2 H2 O2 t2 q2 l2 hk2 => ?_⟩
    exact ⟨⟨dx, _, O2.sub _ _ (t2.f _ _ z)⟩, call_core (k := k) (rs := .val (.obj c fs) :: rs) (vs := .ref a :: ws) hx g O2 (t1.trans t2) ⟨_, _, rfl, RRep.tr (r := .val (.obj c fs)) q1 t2, q2⟩ hk2 _ (fun S h => (cx.cold hcold).2 ▸ h)⟩
  · subst ey
    obtain rfl : u = Value.ref a := ry
    refine StX.callO_with (thn ((s_args h hs).run pos pins s1 σ H1 _ I1 q1) fun us s2 ⟨ws, H2, I2, r2, ⟨dx', fs', hi2⟩, q2⟩ => ?_) (star_cons (by simpa using hs'.1)) (by rw [back_any]; exact star_plain hs'.2)
    obtain ⟨ox, od, J, hd2⟩ := StX.insC_at I2 (.inr ⟨dx', fs', hi2⟩)
    exact ⟨⟨C.cls c, ox, od, J, hd2⟩, wpAny_call (PySem.W.kco_code I2.kIn J hd2 hM.at_ hM.fn hfi (run_codeS (E := WE W.w) (us := .ref a :: us) (vs := .ref a :: ws) F hr rfl hB (L2N.passAt cx.tk σ) I2 (.cons rfl r2) q2))⟩
end
end VL
set_option maxHeartbeats 4000000
/-! VLib: len(o), list(o), walks over own objects. -/
namespace VL
open PySem PySem.Spec PyProof.Rows L2
section
variable {C : CT} {Γ : Nat → VSp} {X : Cx} {cc : CC} {W : WP}
theorem noexcN {A : Around} {outer : List Env} {H : Hp} {s s' : Shared} {e : Value} (h : L2N.CX X.prog X.w outer H s (fun _ _ _ => False) e s') : False := by
  obtain ⟨_, _, _, _, _, _, _, _, _, _, _, _, w⟩ := h
  exact w
theorem env0_at {A : Around} {pins : List (Addr × Obj)} {σ : L2.St} {H : Hp} {s : Shared} (hA : A.frames = X.A.frames) (I : Inv X pins σ H s) : Env0 X.prog X.w X.K X.mg X.base A X.stack s H := by
  have e := I.env0
  exact ⟨by rw [hA]; exact e.frames, e.mod, e.bs, e.bsz, e.funs, e.frf, e.hok, e.bare⟩
/-- __iter__ runs -/
theorem run_iter {lv c i : Nat} {f a dx l : Addr} {fd : FuncData} {ps : List Str} {us zs : List V} {A : Around} {pins : List (Addr × Obj)} {σ : L2.St} {H : Hp} {s : Shared} {E : Value → Shared → Prop} {Q : Value → Shared → Prop} (F : FnS X.prog X.w X.K X.mg X.base (L2N.CX X.prog X.w) lv f fd ps (spIter C X.K c i)) (hr : Room lv A) (hA : A.frames = X.A.frames) (hb : Binds X.K fd ps [])
    (I : Inv X pins σ H s) (ha : H a = some (.ins (C.cls c) dx ((C.fld c).zip us))) (hl : us.length = (C.fld c).length) (hi : us[i]? = some (.ref l)) (hq : SqL X.K H l zs)
    (h : ∀ it s', H it = none → s.heap.objs.size ≤ it → Inv X pins σ (upd H it (ItO l it 0)) s' → Q (.ref it) s') : wpAny (model X.prog X.w) A (call (.ref f) [.ref a]) Q E s := by
  have hsp : spIter C X.K c i s.heap.objs.size [.ref a] H (fun v H' => ∃ it, v = .ref it ∧ H it = none ∧ s.heap.objs.size ≤ it ∧ H' = upd H it (ItO l it 0)) (fun _ _ _ => False) :=
    ⟨a, dx, l, us, zs, rfl, ha, hl, hi, hq, fun it h1 h2 => ⟨it, rfl, h1, h2, rfl⟩⟩
  have hl' := F.len _ _ _ _ _ hsp
  have b := hb s [.ref a] I.kIn (by simpa using hl')
  rw [List.append_nil] at b
  refine wpAny_call (codeAny_mono (F.run A X.stack s H ⟨[.ref a], []⟩ [.ref a] [.ref a] _ _ hr (env0_at hA I) b (.cons rfl .nil) hsp) fun r s' hq => ?_)
  cases r with
  | error e => exact (noexcN (A := A) hq).elim
  | ok fl =>
    cases fl with
    | ret u =>
      obtain ⟨v, H', I', rv, it, ev, h1, h2, eH⟩ := I.after hq
      subst ev eH
      cases (show u = Value.ref it from rv)
      exact h it s' h1 h2 I'
    | next => exact False.elim hq
    | brk => exact False.elim hq
    | cont => exact False.elim hq
/-- __len__ runs -/
theorem run_len {lv c i : Nat} {f a dx l : Addr} {fd : FuncData} {ps : List Str} {us zs : List V} {A : Around} {pins : List (Addr × Obj)} {σ : L2.St} {H : Hp} {s : Shared} {E : Value → Shared → Prop} {Q : Value → Shared → Prop} (F : FnOk X.prog X.w X.K X.mg X.base (L2N.CX X.prog X.w) lv f fd ps (spLen C X.K c i)) (hr : Room lv A) (hA : A.frames = X.A.frames) (hb : Binds X.K fd ps [])
    (I : Inv X pins σ H s) (ha : H a = some (.ins (C.cls c) dx ((C.fld c).zip us))) (hl : us.length = (C.fld c).length) (hi : us[i]? = some (.ref l)) (hq : SqL X.K H l zs)
    (h : ∀ t s', Inv X pins σ H s' → Q (.int (zs.length : Nat) t) s') : wpAny (model X.prog X.w) A (call (.ref f) [.ref a]) Q E s := by
  have hsp : spLen C X.K c i [.ref a] H (fun v H' => v = .int (zs.length : Nat) ∧ H' = H) (fun _ _ _ => False) :=
    ⟨a, dx, l, us, zs, rfl, ha, hl, hi, hq, rfl, rfl⟩
  have hl' := F.len _ _ _ _ hsp
  have b := hb s [.ref a] I.kIn (by simpa using hl')
  rw [List.append_nil] at b
  refine wpAny_call (codeAny_mono (F.run A X.stack s H ⟨[.ref a], []⟩ [.ref a] [.ref a] _ _ hr (env0_at hA I) b (.cons rfl .nil) hsp) fun r s' hq => ?_)
  cases r with
  | error e => exact (noexcN (A := A) hq).elim
  | ok fl =>
    cases fl with
    | ret u =>
      obtain ⟨v, H', I', rv, ev, eH⟩ := I.after hq
      subst ev eH
      obtain ⟨t, e⟩ := (show ∃ t, u = Value.int _ t from rv)
      subst e
      exact h t s' I'
    | next => exact False.elim hq
    | brk => exact False.elim hq
    | cont => exact False.elim hq
theorem it_back {M : Model} {A : Around} {E : Value → Shared → Prop} {Q : Value → Shared → Prop} {s : Shared} {it l : Addr} {i : Nat} (h : s.heap.get? it = some (GNX.itObj l i)) (q : Q (.ref it) s) : PySem.W.OwitIt M A Q E (.ref it) s := by
  unfold PySem.W.OwitIt
  have hT : s.TypeIs (.ref it) "list_iterator" := ⟨_, h, rfl⟩
  exact wpAny_specialOf hT slot_listiter_next.lookup q
/-! ### for x in o -/
theorem pi_obj {tg e : Expr} {te : TE} {lv c i : Nat} {f : Addr} {fd : FuncData} {ps : List Str} (he : PE X e te) (F : FnS X.prog X.w X.K X.mg X.base (L2N.CX X.prog X.w) lv f fd ps (spIter C X.K c i)) (hr : Room (lv + 2) X.A) (hs : PySem.W.findIn X.K (.ref (C.cls c)) "__iter__" = some (some (.ref f))) (hf : PySem.W.isFn X.K (.ref f) = true) (hb : Binds X.K fd ps []) :
    PI X tg e (fun σ H R => te σ H fun x H1 => (∃ a dx us l zs, x = .ref a ∧ H1 a = some (.ins (C.cls c) dx ((C.fld c).zip us)) ∧ us.length = (C.fld c).length ∧ us[i]? = some (.ref l) ∧ SqL X.K H1 l zs ∧ R (ItX.ItlF X.K l 0) H1) ∨
      ((∃ a, x = .ref a ∧ (∃ xs, SqL X.K H1 a xs) ∧ R (Itl X.K a) H1) ∨ (∃ a, x = .ref a ∧ (∃ xs, SqT X.K H1 a xs) ∧ R (Itt X.K a) H1) ∨ ∃ z, x = .str z ∧ R (Its z) H1)) := by
  refine ⟨fun pins s σ H R I h => ?_⟩
  refine thn (he.run pins s σ H _ I h) fun v s1 ⟨x, H1, I1, r1, q1⟩ => ?_
  rcases q1 with ⟨a, dx, us, l, zs, ex, ha, hl, hi, hq, hR⟩ | q1
  · subst ex
    cases (show v = Value.ref a from r1)
    obtain ⟨mA, J, _⟩ := ins_get I1.hok ha
    obtain ⟨od, J, _⟩ := J.look
    obtain ⟨m0, hF⟩ := I1.fr
    refine PySem.W.owit_iter hF I1.ok.mod.kin J hs hf (run_iter F (hr.mono (by omega)) rfl hb I1 ha hl hi hq fun it s2 hn hz I2 => ?_)
    have hg := itO_get I2 upd_same
    refine it_back hg ?_
    have hit := upd_same (H := H1) (a := it) (o := ItO l it 0)
    have hI := ItX.inv_drop I2 hit
    have hfp := ItX.inv_fp I2 hit (Nat.le_trans I1.sz hz)
    rw [ItX.dropH_upd hn] at hI hfp
    exact ⟨it, [it], _, _, H1, rfl, hI, ItX.turn_listF l it 0, ⟨_, hg, rfl, rfl⟩, fun b hb => by
      have e : b = it := by simpa using hb
      rw [e]
      exact hfp, hR⟩
  · have main := (pi_any (X := X) (tg := tg) (l := e) (tl := fun σ' H' Q => False) ⟨fun _ _ _ _ _ _ z => z.elim⟩)
    rcases q1 with ⟨a, e, ⟨xs, hq⟩, q⟩ | ⟨a, e, ⟨xs, hq⟩, q⟩ | ⟨z, e, q⟩
    · subst e
      cases r1
      obtain ⟨its, rv, p, hz⟩ := I1.list hq
      refine wpAny_pyIter_list p.isList ?_
      refine ⟨s1.heap.objs.size, [s1.heap.objs.size], _, _, H1, rfl, I1.kept (t' := s1.toks) fun b o e => Heap.get?_push_of_some _ e, turn_list a _, ⟨_, Heap.get?_push_size _ rfl, rfl, rfl⟩, fun b hb => ?_, q⟩
      have e : b = s1.heap.objs.size := by simpa using hb
      subst e
      exact I1.fpOk (Nat.le_refl _) (I1.hok.fresh (Nat.le_refl _))
    · subst e
      cases r1
      obtain ⟨its, rv, p, hz⟩ := I1.tuple hq
      refine wpAny_pyIter_tuple (show s1.heap.IsTuple a its.toArray from p) ?_
      refine ⟨s1.heap.objs.size, [s1.heap.objs.size], _, _, H1, rfl, I1.kept (t' := s1.toks) fun b o e => Heap.get?_push_of_some _ e, turn_tuple a _, ⟨_, Heap.get?_push_size _ rfl, rfl, rfl⟩, fun b hb => ?_, q⟩
      have e : b = s1.heap.objs.size := by simpa using hb
      subst e
      exact I1.fpOk (Nat.le_refl _) (I1.hok.fresh (Nat.le_refl _))
    · subst e
      obtain ⟨t, rfl⟩ := r1
      cases ha : z.cps.all (· < 128)
      · exact wpAny_pyIter_wide ha (pi_one (tk := s1.toks) I1 _ (turn_str _ z t "str_iterator" (.inr rfl)) ⟨_, Heap.get?_push_size _ rfl, rfl, rfl⟩ q)
      · exact wpAny_pyIter_ascii ha (pi_one (tk := s1.toks) I1 _ (turn_str _ z t "str_ascii_iterator" (.inl rfl)) ⟨_, Heap.get?_push_size _ rfl, rfl, rfl⟩ q)
theorem walk_lstF {S : SG} {F : Hp} {a : Addr} {vs : List V} {ds : List D} {K : PySem.W.Frag} (h : F a = some (.lst vs)) (r : Reps C S F ds vs) : WalkD C S F (ItX.ItlF K a 0) ds where
  go := fun i H s hi => by
    have := (walk_lst (K := K) h r).go i H s hi
    show (Itl K a).go (0 + i) H
    rw [Nat.zero_add]
    exact this
  stop := fun H s => by
    have := (walk_lst (K := K) h r).stop H s
    show (Itl K a).stop (0 + ds.length) H
    rw [Nat.zero_add]
    exact this
  yld := fun i H x H' d s hd y => by
    have y' : (Itl K a).yld (0 + i) H x H' := y
    rw [Nat.zero_add] at y'
    exact (walk_lst (K := K) h r).yld i H x H' d s hd y'
theorem s_itO (cx : Ctx C Γ X cc W) (hcold : cc.hot = false) {tg e : Expr} {va : VE} {c i : Nat} (hi : cc.itf = some (c, i)) (h : PE X e (tE C Γ W va)) : PI X tg e (tI C Γ W (.itO c i va)) := by
  obtain ⟨lv, f, fd, ps, F, hr, hs, hf, hb, _⟩ := cx.itf hcold c i hi
  refine pi_imp (pi_obj h F hr hs hf hb) ?_
  rintro σ H R ⟨S, F0, H0, F, ρ, K, E, O, hw, hx, g⟩
  unfold wI at hw
  refine ⟨S, F0, H0, F, ρ, _, E, O, hw, hx, fun r1 ρ1 v1 F1 H1 O1 t1 q1 f1 hw1 => ?_⟩
  have hw1 : obj1 r1 c _ _ := hw1
  unfold obj1 at hw1
  split at hw1
  · rename_i c' f _
    obtain ⟨rfl, ds, hd, hk⟩ := hw1
    obtain ⟨a, dx, vs, rfl, z, l, r⟩ := obj_at (show Rep C S F1 (.obj _ f) v1 from q1)
    obtain ⟨v, hv, rv⟩ := r.at hd
    unfold Rep at rv
    obtain ⟨b, us, rfl, zb, rb⟩ := rv
    exact .inl ⟨a, dx, vs, b, us, rfl, O1.sub _ _ z, l, hv, .of (O1.sub _ _ zb), g _ _ _ F1 H1 O1 t1 (walk_lstF zb rb) hk⟩
  · obtain ⟨F2, O2, t2, rv, _⟩ := freeze (P := True) O1 q1 f1.lv
    have hw1 : vIter r1 ρ1 K := hw1
    unfold vIter at hw1
    split at hw1
    · rename_i ds hd
      rw [hd] at rv
      unfold Rep at rv
      obtain ⟨a, vs, e, q, r⟩ := rv
      exact .inr (.inl ⟨a, e, ⟨vs, .of (O2.sub _ _ q)⟩, g ds _ _ F2 H1 O2 (t1.trans t2) (walk_lst q r) hw1⟩)
    · rename_i ds hd
      rw [hd] at rv
      unfold Rep at rv
      obtain ⟨a, vs, e, q, r⟩ := rv
      exact .inr (.inr (.inl ⟨a, e, ⟨vs, .inl (.inl (O2.sub _ _ q))⟩, g ds _ _ F2 H1 O2 (t1.trans t2) (walk_tupD cx.K q r) hw1⟩))
    · rename_i z hd
      rw [hd] at rv
      unfold Rep at rv
      exact .inr (.inr (.inr ⟨z, rv, g _ ρ1 _ F1 H1 O1 t1 walk_strD hw1⟩))
    · exact hw1.elim

/-! ### len(o) -/
theorem run_lenM {lv k c : Nat} {f : Addr} {fd : FuncData} {ps : List Str} (hC : X.K = C.K) (F : FnOk X.prog X.w X.K X.mg X.base (L2N.CX X.prog X.w) lv f fd ps (lift C Cold (Γ k))) (hr : Room (lv + 4) X.A) (hb : Binds X.K fd ps []) (hs : PySem.W.findIn X.K (.ref (C.cls c)) "__len__" = some (some (.ref f))) (hf : PySem.W.isFn X.K (.ref f) = true) (hcalm : X.calm = true) :
    CallR X (.builtin "len") (fun xs H Q => (∃ p dx fs, xs = [.ref p] ∧ H p = some (.ins (C.cls c) dx fs) ∧ lift C Cold (Γ k) [.ref p] H (fun z H' => ∃ n : Int, z = .int n ∧ 0 ≤ n ∧ n < 2 ^ 62 ∧ Q z H') (fun _ _ _ => False)) ∨ rBlt C .len xs H Q) := by
  intro pins s σ H xs us Q I rx h
  rcases h with ⟨p, dx, fs, rfl, hp, hl⟩ | h
  · obtain ⟨u, rfl, ru⟩ := rx.one
    cases (show u = Value.ref p from ru)
    obtain ⟨mA, J, _⟩ := ins_get I.hok hp
    obtain ⟨od, J, _⟩ := J.look
    obtain ⟨m0, hF⟩ := I.fr
    refine PySem.W.len_K hF I.ok.mod.kin J hs hf (wpAny_mono (wpAny_call (run_codeS (E := fun _ => fun _ _ _ => False) (us := [.ref p]) (vs := [.ref p]) F ((hr.mono (j := lv + 1) (by omega)).in1) rfl hb (fun _ _ _ _ _ _ c => (noexcN (A := X.A) c).elim) I (.cons rfl .nil) hl)) (fun w s' z => ?_) fun _ _ x => x)
    obtain ⟨z', H', I', rz, n, ez, h0, h1, qz⟩ := z
    subst ez
    obtain ⟨t, e⟩ := (show ∃ t, w = Value.int n t from rz)
    subst e
    exact ⟨⟨h0, by omega⟩, .int n, H', I'.tok _, ⟨_, rfl⟩, qz⟩
  · exact call_blt hC (b := .len) (.inl hcalm) (by decide) pins s σ H xs us Q I rx h
theorem s_lenO (cx : Ctx C Γ X cc W) (hcold : cc.hot = false) {a : Expr} {va : VE} {c k : Nat} {p pos : Pos} (hg : cc.free "len" = true) (hm : cc.mtd.lookup ("__len__" : Str) = some (c, k)) (hs : isStar a = false) (ha : PE X a (tE C Γ W va)) : PE X (.Call (.Name "len" p) [a] [] pos) (tE C Γ W (.lenO c k va)) := by
  obtain ⟨lv, fa, fd, ps, ⟨F, hr⟩, hM, hC, hB, hno, hsf, hnf, hfi, hr4⟩ := cx.mtd hcold _ c k hm
  obtain ⟨g1, g2, g3⟩ := CC.free_ok hg
  have st1 : starEach [a] X.env = (false, eval a X.env) :: starEach [] X.env := star_cons hs
  refine pe_imp (pe_callB (run_lenM cx.K F hr4 hB hM.at_ hM.fn (cx.cold hcold).1) (cx.glob g1) (cx.blt _ g2) (by decide +kernel) (pa_cons ha pa_nil st1) g3 (okN_ok (CC.gl_okN g1)).1 st1 (by rw [back_any]; rfl)) ?_
  rintro σ H Q ⟨S, F0, H0, F, ρ, K, E, O, hw, hx, g⟩
  unfold wE at hw
  refine ⟨S, F0, H0, F, ρ, _, E, O, hw, hx, fun r1 ρ1 v1 F1 H1 O1 t1 q1 f1 hk => ?_⟩
  have hk : obj1 r1 c _ _ := hk
  unfold obj1 at hk
  split at hk
  · rename_i c' f _
    obtain ⟨rfl, hk⟩ := hk
    obtain ⟨p, dx, vs, rfl, z, l, r⟩ := obj_at (show Rep C S F1 (.obj _ f) v1 from q1)
    refine .inl ⟨p, dx, _, rfl, O1.sub _ _ z, call_core (W := W.no) (E := fun _ _ => False) (K := fun r ρ => ∃ k : Int, r.d = .int k ∧ 0 ≤ k ∧ k < 2 ^ 62 ∧ K (.val (.int k)) ρ) (rs := [.val (.obj _ f)]) (vs := [.ref p]) ⟨hx.1, fun _ _ _ _ _ _ _ _ _ z => z.elim⟩ (fun r ρ' v F' H' O' t' q' f' hk' => ?_) O1 t1 ⟨_, _, rfl, q1, rfl⟩ (by
          show (Γ k).run _ (fun o d => ∃ k : Int, R.d _ = .int k ∧ 0 ≤ k ∧ k < 2 ^ 62 ∧ K _ (if d.lf then ρ1 else ρ1)) _
          simp only [ite_self]
          refine VSp.run_mono hk fun o d ⟨b, e, q⟩ => ⟨b, ?_, q⟩
          cases o <;> exact e) _ (fun S h => (cx.cold hcold).2 ▸ h)⟩
    obtain ⟨n, e, h0, h1, hk'⟩ := hk'
    have rv := rrep_scal O' q' f' (by rw [e]; rfl)
    rw [e] at rv
    unfold Rep at rv
    subst rv
    exact ⟨n, rfl, h0, h1, g (.val (.int n)) ρ' _ F' H' O' t' (rep_int (C := C) (S := S) (F := F')) trivial hk'⟩
  · obtain ⟨w1, _⟩ := view_of O1 q1 f1.lv
    exact .inr ⟨S, F0, H0, F1, σ, ρ1, [r1.d], _, O1, ⟨_, _, rfl, w1, rfl⟩, by decide, hk, fun r v F' H' O' t' q' f' hk' => g r ρ1 v F' H' O' (t1.trans t') q' f' hk'⟩
end
end VL
set_option maxHeartbeats 4000000
/-! VLic: list(o) of own objects. -/
namespace VL
open PySem PySem.Spec PyProof.Rows L2
section
variable {C : CT} {Γ : Nat → VSp} {X : Cx} {cc : CC} {W : WP}
theorem fp_upd {pins : List (Addr × Obj)} {H : Hp} {it q : Addr} {o : HO} (h : FpOk X pins H it) (hq : it ≠ q) : FpOk X pins (upd H q o) it := ⟨by rw [upd_ne hq]; exact h.1, h.2⟩
/-- the iterator's things go into the list -/
theorem itl_loop {A1 : Around} {Rs : Result → Shared → Prop} {pins : List (Addr × Obj)} {σ : L2.St} {H : Hp} {q it l : Addr} {zs : List V} (hh : A1.in1.handled = none) (hq : H q = none) (hfp : FpOk X pins H it) (hiq : it ≠ q) (hlq : l ≠ q) (hl : SqL X.K H l zs) (hz : zs.length ≤ sizeLine)
    (hdone : ∀ s, Inv X pins σ (upd H q (.lst zs)) s → Rs (.ok (.ret .none)) s) :
    ∀ (k i : Nat) (s : Shared), k = zs.length - i → i ≤ zs.length → Inv X pins σ (upd H q (.lst (zs.take i))) s → s.heap.IsListIter it l i → codeAny (model X.prog X.w) A1 (.builtin "list.extend.loop" ⟨[.ref q, .ref it, .none], []⟩) Rs s := by
  intro k
  induction k with
  | zero =>
    intro i s hk hi I st
    have e : i = zs.length := by omega
    subst e
    rw [List.take_length] at I
    refine codeAny_builtin PySem.F.entry_extend_loop ?_
    rw [Around.under_plainId PySem.F.plain_extend_loop _]
    show wpAny _ A1.in1 (pyNext (.ref it) >>= _) _ _ s
    have hl' : SqL X.K (upd H q (.lst zs)) l zs := by
      rcases hl with (hl | ⟨o, hl⟩) | hl
      · exact .inl (.inl (by rw [upd_ne hlq]; exact hl))
      · exact .inl (.inr ⟨o, by rw [upd_ne hlq]; exact hl⟩)
      · exact .inr hl
    obtain ⟨its, rv, p, _⟩ := I.list hl'
    obtain ⟨f0, f1, f2, f3, f4, f5⟩ := fp_upd (o := .lst zs) hfp hiq
    have hlen := rv.length
    refine wpAny_bind (wpAny_pyNext_list_end hh st p.isList (by simp; omega) fun h' eb => ?_)
    exact wpAny_pure (hdone _ (I.turned (t' := s.toks) (fun b o hb e => eb b o hb e) f0 f1 f3 f4 f5))
  | succ k ih =>
    intro i s hk hi I st
    have hlt : i < zs.length := by omega
    refine codeAny_builtin PySem.F.entry_extend_loop ?_
    rw [Around.under_plainId PySem.F.plain_extend_loop _]
    show wpAny _ A1.in1 (pyNext (.ref it) >>= _) _ _ s
    have hl' : SqL X.K (upd H q (.lst (zs.take i))) l zs := by
      rcases hl with (hl | ⟨o, hl⟩) | hl
      · exact .inl (.inl (by rw [upd_ne hlq]; exact hl))
      · exact .inl (.inr ⟨o, by rw [upd_ne hlq]; exact hl⟩)
      · exact .inr hl
    obtain ⟨its, rv, p, _⟩ := I.list hl'
    obtain ⟨u, hu, ru⟩ := rv.get (List.getElem?_eq_getElem hlt)
    obtain ⟨f0, f1, f2, f3, f4, f5⟩ := fp_upd (o := .lst (zs.take i)) hfp hiq
    refine wpAny_bind (wpAny_pyNext_list_item st p.isList (x := u) (by simpa using hu) fun h' st' sb => ?_)
    have I1 : Inv X pins σ (upd H q (.lst (zs.take i))) { s with heap := h' } := I.turned (t' := s.toks) (fun b o hb e => (sb.2 b hb).trans e) f0 f1 f3 f4 f5
    show wpAny _ A1.in1 (updateSeq q (·.push u) >>= _) _ _ _
    obtain ⟨z, its2, k2, r2, hl2, e⟩ := I1.lstM upd_same
    have hlen2 : its2.length = i := by
      rw [← r2.length, List.length_take]; omega
    refine wpAny_bind (wpAny_updateSeq e rfl (wpAny_pure ⟨plainId_quiet PySem.F.plain_extend_loop _, ?_⟩) (by rw [List.size_toArray]; omega) (by show (its2.toArray.push u).size ≤ sizeLine + 1; rw [Array.size_push, List.size_toArray]; omega))
    have I2 := I1.lset (f := (·.push u)) (its' := its2 ++ [u]) (ys := zs.take i ++ [zs[i]]) (t' := s.toks) upd_same e (by simp) (r2.append (.cons ru .nil)) (by rw [List.length_append, List.length_singleton, List.length_take]; omega)
    rw [upd_upd] at I2
    rw [List.take_append_getElem hlt] at I2
    refine ih (i + 1) _ (by omega) hlt I2 ?_
    exact st'.at fun o ho => by
      show (h'.update q _).get? it = some o
      rw [Heap.get?_update_ne _ _ _ _ hiq]
      exact ho
theorem if_yesV {α : Type} {M : Model} {A : Around} {E : Value → Shared → Prop} {s : Shared} {c : Bool} {a b : Sem α} {Q : α → Shared → Prop} (hc : c = true) (h : wpAny M A a Q E s) : wpAny M A (if c = true then a else b) Q E s := by
  rw [if_pos hc]
  exact h
/-- what is said of the length -/
theorem hint_obj {c i : Nat} {a dx l : Addr} {us zs : List V} {A : Around} {pins : List (Addr × Obj)} {σ : L2.St} {H : Hp} {s : Shared} {E : Value → Shared → Prop} {Q : Bool → Shared → Prop} (hA : A.frames = X.A.frames)
    (h0 : PySem.W.findIn X.K (.ref (C.cls c)) "__length_hint__" = some none)
    (h1 : PySem.W.findIn X.K (.ref (C.cls c)) "__len__" = some none ∨ ∃ g gd qs lw, FnOk X.prog X.w X.K X.mg X.base (L2N.CX X.prog X.w) lw g gd qs (spLen C X.K c i) ∧ Room (lw + 1) A ∧ PySem.W.findIn X.K (.ref (C.cls c)) "__len__" = some (some (.ref g)) ∧ PySem.W.isFn X.K (.ref g) = true ∧ Binds X.K gd qs [])
    (I : Inv X pins σ H s) (ha : H a = some (.ins (C.cls c) dx ((C.fld c).zip us))) (hl : us.length = (C.fld c).length) (hi : us[i]? = some (.ref l)) (hq : SqL X.K H l zs) (hz : zs.length ≤ sizeLine)
    (h : ∀ b s', Inv X pins σ H s' → Q b s') : wpAny (model X.prog X.w) A (Builtin.List.listLengthHint (.ref a)) Q E s := by
  obtain ⟨mA, J, _⟩ := ins_get I.hok ha
  obtain ⟨od, J, _⟩ := J.look
  obtain ⟨m0, hF⟩ := I.fr
  unfold Builtin.List.listLengthHint
  rcases h1 with h1 | ⟨g, gd, qs, lw, FL, hlw, hs, hf, hb⟩
  · refine wpAny_bind (wpAny_bind (J.type.here ((PySem.W.looks_findIn I.kIn h1).here ?_)))
    refine PySem.W.KFB.if_not rfl ?_
    refine PySem.W.KFB.if_not rfl ?_
    refine wpAny_bind (wpAny_bind (J.type.here ((PySem.W.looks_findIn I.kIn h0).here ?_)))
    exact wpAny_pure (h true s I)
  · refine wpAny_bind (wpAny_bind (J.type.here ((PySem.W.looks_findIn I.kIn hs).here ?_)))
    refine PySem.W.KFB.if_not rfl ?_
    refine if_yesV rfl ?_
    refine wpAny_bind (wpAny_rule ?_)
    refine wpAny_bind (wpAny_attempt (PySem.W.len_K hF I.ok.mod.kin J hs hf (run_len FL (hlw.in1) hA hb I ha hl hi hq fun t s2 I2 => ?_)))
    refine ⟨⟨by omega, by have := line63; omega⟩, ?_⟩
    have hn : Builtin.List.listTooLong ((zs.length : Nat) : Int).toNat = false := by
      unfold Builtin.List.listTooLong
      simpa using hz
    show wpAny _ A (if Builtin.List.listTooLong ((zs.length : Nat) : Int).toNat = true then _ else pure (((zs.length : Nat) : Int) != 0)) _ _ _
    refine PySem.W.KFB.if_not (by rw [hn]) ?_
    exact wpAny_pure (h _ _ (I2.tok _))
theorem sql_upd {K : PySem.W.Frag} {H : Hp} {a q : Addr} {o : HO} {zs : List V} (hq : H q = none) (h : SqL K H a zs) : SqL K (upd H q o) a zs := by
  rcases h with (h | ⟨u, h⟩) | h
  · exact .inl (.inl (by rw [upd_ne (ne_of_none h hq)]; exact h))
  · exact .inl (.inr ⟨u, by rw [upd_ne (ne_of_none h hq)]; exact h⟩)
  · exact .inr h
theorem upd_comm {H : Hp} {a b : Addr} {x y : HO} (h : a ≠ b) : upd (upd H a x) b y = upd (upd H b y) a x := by
  funext c
  by_cases h1 : c = b
  · subst h1; rw [upd_same, upd_ne (Ne.symm h), upd_same]
  · by_cases h2 : c = a
    · subst h2; rw [upd_ne h1, upd_same, upd_same]
    · rw [upd_ne h1, upd_ne h2, upd_ne h2, upd_ne h1]
/-- list(o) asks -/
def rLstO (C : CT) (K : PySem.W.Frag) (c i : Nat) : List V → Hp → VK → Prop := fun xs H Q => ∃ (a dx l : Addr) (us zs : List V), xs = [.ref a] ∧ H a = some (.ins (C.cls c) dx ((C.fld c).zip us)) ∧ us.length = (C.fld c).length ∧ us[i]? = some (.ref l) ∧ SqL K H l zs ∧
  ∀ q, H q = none → Q (.ref q) (upd H q (.lst zs))
theorem run_lst {c i : Nat} (hi : IterAt C Γ X c i) : CallR X (.type "list") (rLstO C X.K c i) := by
  obtain ⟨lv, f, fd, ps, F, hr, hs, hf, hb, h0, h1⟩ := hi
  intro pins s σ H xs us Q I rv h
  obtain ⟨a, dx, l, vs, zs, rfl, ha, hlen, hfi, hsq, hQ⟩ := h
  obtain ⟨u, rfl, ru⟩ := rv.one
  cases ru
  obtain ⟨_, _, _, hzl⟩ := I.list hsq
  refine callType_codes (Q₁ := fun obj s₁ => obj = .ref s.heap.objs.size ∧ s₁ = { s with heap := s.heap.push { cls := .type "list", data := .seq #[] } }) PySem.F.called_list (PySem.F.typeCall_list_1 _) PySem.F.entry_list_init
    (code_list_new _ ⟨rfl, rfl⟩) fun obj s₁ h₁ => ?_
  obtain ⟨rfl, rfl⟩ := h₁
  have hS : (s.heap.push { cls := .type "list", data := .seq #[] }).get? s.heap.objs.size = some { cls := .type "list", data := .seq #[] } := Heap.get?_push_size _ rfl
  refine ⟨⟨_, hS, rfl⟩, PySem.F.args_list_init_2 _ _, ?_⟩
  have fr : H s.heap.objs.size = none := I.hok.fresh (Nat.le_refl _)
  generalize hqq : s.heap.objs.size = q at fr hS ⊢
  have I1 : Inv X pins σ (upd H q (.lst [])) { s with heap := s.heap.push { cls := .type "list", data := .seq #[] } } := by
    rw [← hqq]
    exact I.lnew (its := []) (t' := s.toks) .nil (Nat.zero_le _)
  show wpAny _ _ (do let old ← Builtin.List.listItems (.ref q); Builtin.List.listUpdate (.ref q) (fun _ => #[]); letGo old.toList.reverse; Builtin.List.listExtendWith (.ref q) (.ref a) .none) _ _ _
  refine wpAny_bind ?_
  unfold Builtin.List.listItems
  refine wpAny_bind (wpAny_seqItems hS rfl (wpAny_pure ?_))
  show wpAny _ _ (updateSeq q (fun _ => #[]) >>= fun _ => letGo (#[] : Array Value).toList.reverse >>= fun _ => Builtin.List.listExtendWith (.ref q) (.ref a) .none) _ _ _
  refine wpAny_bind (wpAny_updateSeq hS rfl ?_)
  have I2 := I1.lset (f := fun _ => #[]) (its := []) (its' := []) (ys := []) (t' := s.toks) upd_same hS rfl .nil (Nat.zero_le _)
  rw [upd_upd] at I2
  refine wpAny_bind (wpAny_letGo ?_)
  have ha2 : upd H q (.lst []) a = some (.ins (C.cls c) dx ((C.fld c).zip vs)) := by rw [upd_ne (ne_of_none ha fr)]; exact ha
  have hsq2 : SqL X.K (upd H q (.lst [])) l zs := sql_upd fr hsq
  have hlq : l ≠ q := fun z => by
    obtain ⟨its, rz, ⟨o, n, ho, _⟩, _⟩ := I.list hsq
    have hz : l < s.heap.objs.size := Heap.lt_size ho
    rw [hqq, z] at hz
    exact Nat.lt_irrefl _ hz
  have hne : q ≠ a := Ne.symm (ne_of_none ha fr)
  obtain ⟨mA, J, _⟩ := ins_get I2.hok ha2
  obtain ⟨od, J, _⟩ := J.look
  obtain ⟨m0, hF⟩ := I2.fr
  have rm : Room lv X.A.in1.in1 := (hr.in1).in1
  show wpAny _ X.A.in1.in1 _ _ _ _
  unfold Builtin.List.listExtendWith
  refine wpAny_bind (J.type.here ?_)
  have e1 : Builtin.List.listSameRef (.ref q) (.ref a) = false := by simp [Builtin.List.listSameRef, hne]
  have e2 : (Value.ref (C.cls c) == Value.type "list") = false := rfl
  have e3 : (Value.ref (C.cls c) == Value.type "tuple") = false := rfl
  simp only [e1, e2, e3, Bool.or_false, Bool.false_eq_true, if_false]
  refine wpAny_bind (PySem.W.owit_iter hF I2.ok.mod.kin J hs hf (run_iter F rm rfl hb I2 ha2 hlen hfi hsq2 fun it s3 hn hz I3 => ?_))
  have hg := itO_get I3 upd_same
  refine it_back hg ?_
  have hiq : it ≠ q := fun z => by subst z; rw [upd_same] at hn; cases hn
  have hia : a ≠ it := ne_of_none ha2 hn
  have ha3 : upd (upd H q (.lst [])) it (ItO l it 0) a = some (.ins (C.cls c) dx ((C.fld c).zip vs)) := by rw [upd_ne hia]; exact ha2
  refine wpAny_bind (wpAny_holding (hint_obj rfl h0 (h1.imp_right fun ⟨g, gd, qs, lw, x1, x2, x3⟩ => ⟨g, gd, qs, lw, x1, ((x2.mono (j := lw + 3) (by omega)).in1).in1, x3⟩) I3 ha3 hlen hfi (sql_upd hn hsq2) hzl fun b s4 I4 => ?_))
  have hit := upd_same (H := upd H q (.lst [])) (a := it) (o := ItO l it 0)
  have hfp := ItX.inv_fp I4 hit (Nat.le_trans I2.sz hz)
  have hg4 := itO_get I4 upd_same
  rw [ItX.dropH_upd hn] at hfp
  have hfp0 : FpOk X pins H it := by
    have e : H it = none := by
      have := hn
      rw [upd_ne hiq] at this
      exact this
    exact ⟨e, hfp.2⟩
  have I5 := ItX.inv_drop I4 hit
  rw [ItX.dropH_upd hn] at I5
  have st4 : s4.heap.IsListIter it l 0 := ⟨_, hg4, rfl, rfl⟩
  have lp : ∀ t5 h5, Inv X pins σ (upd H q (.lst [])) { s4 with heap := h5, toks := t5 } → h5.IsListIter it l 0 → codeAny (model X.prog X.w) X.A.in1 (.builtin "list.extend.loop" ⟨[.ref q, .ref it, .none], []⟩) (wants (fun r s₂ => r = .none ∧ EP X pins σ Q (.ref q) s₂) X.xe) { s4 with heap := h5, toks := t5 } := fun t5 h5 I5 st5 =>
    itl_loop (A1 := X.A.in1) (Rs := wants (fun r s₂ => r = .none ∧ EP X pins σ Q (.ref q) s₂) X.xe) rm.hd fr hfp0 hiq hlq hsq hzl (fun s6 I6 => ⟨rfl, .ref q, _, I6, rfl, hQ q fr⟩) zs.length 0 _ (by omega) (Nat.zero_le _) I5 st5
  refine wpAny_ite_split (fun _ => ?_) (fun _ => wpAny_pure ⟨plainId_quiet PySem.F.plain_extend_loop _, lp s4.toks s4.heap I5 st4⟩)
  obtain ⟨z, its, k, r3, hl3, e3⟩ := I5.lstM upd_same
  cases r3
  refine wpAny_bind (wpAny_rule ?_)
  refine wpAny_bind ?_
  show wpAny _ _ (updateSeq q (·.push .none) >>= fun _ => updateSeq q (·.pop)) _ _ _
  refine wpAny_bind (wpAny_updateSeq e3 rfl ?_)
  have I6 := I5.lset (f := (·.push Value.none)) (its' := [Value.none]) (ys := [.non]) (t' := s4.toks) upd_same e3 (by simp) (.cons rfl .nil) (by rw [List.length_singleton, sizeLine_eq]; decide)
  obtain ⟨z4, its4, k4, r4, hl4, e4⟩ := I6.lstM upd_same
  obtain ⟨u4, rfl, ru4⟩ := r4.one
  refine wpAny_updateSeq e4 rfl ?_ (by show 1 ≤ sizeLine; rw [sizeLine_eq]; decide) (by show 0 ≤ sizeLine + 1; exact Nat.zero_le _)
  have I7 := I6.lset (f := (·.pop)) (its := [u4]) (its' := []) (ys := []) (t' := s4.toks) upd_same e4 (by rfl) .nil (Nat.zero_le _)
  rw [upd_upd, upd_upd] at I7
  refine wpAny_pure ⟨plainId_quiet PySem.F.plain_extend_loop _, lp _ _ I7 ?_⟩
  refine ⟨GNX.itObj l 0, ?_, rfl, rfl⟩
  rw [Heap.get?_update_ne _ _ _ _ hiq, Heap.get?_update_ne _ _ _ _ hiq]
  exact hg4
theorem s_lstO (cx : Ctx C Γ X cc W) (hcold : cc.hot = false) {a : Expr} {va : VE} {c i : Nat} {p pos : Pos} (hg : cc.free "list" = true) (hi : cc.itf = some (c, i)) (hs : isStar a = false) (ha : PE X a (tE C Γ W va)) : PE X (.Call (.Name "list" p) [a] [] pos) (tE C Γ W (.lstO c i va)) := by
  have hit := cx.itf hcold c i hi
  obtain ⟨g1, g2, g3⟩ := CC.free_ok hg
  have st1 : starEach [a] X.env = (false, eval a X.env) :: starEach [] X.env := star_cons hs
  have cr : CallR X (.type "list") (fun xs H Q => rLstO C X.K c i xs H Q ∨ rBlt C .list xs H Q) := by
    intro pins s σ H xs us Q I rx h
    rcases h with h | h
    · exact run_lst hit pins s σ H xs us Q I rx h
    · exact call_blt cx.K (b := .list) (.inl (cx.cold hcold).1) (by decide) pins s σ H xs us Q I rx h
  refine pe_imp (pe_callTy cr (cx.glob g1) (cx.blt _ g2) (by decide +kernel) (pa_cons ha pa_nil st1) g3 (okN_ok (CC.gl_okN g1)).1 st1 (by rw [back_any]; rfl)) ?_
  rintro σ H Q ⟨S, F0, H0, F, ρ, K, E, O, hw, hx, g⟩
  unfold wE at hw
  refine ⟨S, F0, H0, F, ρ, _, E, O, hw, hx, fun r1 ρ1 v1 F1 H1 O1 t1 q1 f1 hk => ?_⟩
  have hk : obj1 r1 c _ _ := hk
  unfold obj1 at hk
  split at hk
  · rename_i c' f _
    obtain ⟨rfl, ds, hd, hk⟩ := hk
    obtain ⟨p, dx, vs, rfl, z, l, r⟩ := obj_at (show Rep C S F1 (.obj _ f) v1 from q1)
    obtain ⟨v, hv, rv⟩ := r.at hd
    unfold Rep at rv
    obtain ⟨b, us, rfl, zb, rb⟩ := rv
    refine .inl ⟨p, dx, b, vs, us, rfl, O1.sub _ _ z, l, hv, .of (O1.sub _ _ zb), fun q hq => ?_⟩
    have nn := O1.new hq
    exact g (.tmp (.lst _)) ρ1 _ _ _ (O1.newO hq _) (t1.trans (Tr.newO hq _)) ⟨q, rfl, nn.1, nn.2.1, O1.noslot hq, _, upd_same, us, rfl, rb⟩ (fun b e => by cases e; exact nn.2.2) hk
  · obtain ⟨w1, _⟩ := view_of O1 q1 f1.lv
    exact .inr ⟨S, F0, H0, F1, σ, ρ1, [r1.d], _, O1, ⟨_, _, rfl, w1, rfl⟩, by decide, hk, fun r v F' H' O' t' q' f' hk' => g r ρ1 v F' H' O' (t1.trans t') q' f' hk'⟩
end
end VL
set_option maxHeartbeats 4000000
/-! VLj: every expression, statement and def of the text reads as the language says. -/
namespace VL
open PySem PySem.Spec PyProof.Rows L2
section
variable {C : CT} {Γ : Nat → VSp}
theorem boot_isinstance' : bootBuiltins ("isinstance" : Str) = some (.builtin "isinstance") := by decide +kernel
theorem isRange_ok {cc : CC} {args : List Expr} (h : isRange cc args = true) : cc.free "range" = true ∧
    ((∃ p pos a, args = [.Call (.Name "range" p) [a] [] pos] ∧ isStar a = false) ∨ ∃ p pos a b, args = [.Call (.Name "range" p) [a, b] [] pos] ∧ isStar a = false ∧ isStar b = false) := by
  unfold isRange at h
  split at h
  · rename_i f p as pos
    simp only [Bool.and_eq_true, decide_eq_true_eq, Bool.or_eq_true] at h
    obtain ⟨⟨⟨h1, h2⟩, h3⟩, h4⟩ := h
    subst h2
    refine ⟨h1, ?_⟩
    unfold noStars at h3
    match as, h3, h4 with
    | [a], h3, _ => exact .inl ⟨p, pos, a, rfl, by simpa using h3⟩
    | [a, b], h3, _ =>
      simp only [List.all_cons, List.all_nil, Bool.and_true, Bool.and_eq_true, Bool.not_eq_true'] at h3
      exact .inr ⟨p, pos, a, b, rfl, h3.1, h3.2⟩
    | [], _, h4 => simp at h4
    | _ :: _ :: _ :: _, _, h4 => simp at h4
  · cases h
/-- a comprehension, as a value and stored at once -/
theorem s_comp {X : Cx} {cc : CC} {W : WP} (cx : Ctx C Γ X cc W) (hcold : cc.hot = false) {elt g it : Expr} {ifs : List Expr} {scope : Scope} {pos : Pos} {ve : VE} {vg : VG} {vi : VI} {vc : VC} (hb : blkC cc.N cc.sc scope (ownOf cc.N scope) = true) (hset : isSet it = false)
    (hsub : vg.slots.all (fun i => ((ownOf cc.N scope).map (·.2)).contains i) = true)
    (he : ∀ (s : Shared) (H : Hp) (c : Addr) (cl : List (Str × Addr)) (fp : List Addr), PE (X.blk s H scope (compEnvC scope cl c X.env) fp) elt (tE C Γ W.no ve))
    (hg : ∀ (s : Shared) (H : Hp) (c : Addr) (cl : List (Str × Addr)) (fp : List Addr), PG (X.blk s H scope (compEnvC scope cl c X.env) fp) g (tG C vg))
    (ht : ∀ (s : Shared) (H : Hp) (c : Addr) (cl : List (Str × Addr)) (fp : List Addr), PTs (X.blk s H scope (compEnvC scope cl c X.env) fp) ifs (tCo C Γ W.no vc))
    (hi : PI X g it (tI C Γ W vi)) :
    PE X (.ListComp elt [⟨g, it, ifs, 0⟩] scope pos) (tE C Γ W (.comp ((ownOf cc.N scope).map (·.2)) ve vg vi vc)) ∧
    ∀ (i : Nat) (y : Str) (py spos : Pos), X.N[i]? = some y → X.env.scope.names.lookup y = some .local → swapsWith (.ListComp elt [⟨g, it, ifs, 0⟩] scope pos) (some (.Name y py)) spos.line X.env = pure true →
      PS X (.Assign [.Name y py] (.ListComp elt [⟨g, it, ifs, 0⟩] scope pos) spos) (tAsg (tE C Γ W (.comp ((ownOf cc.N scope).map (·.2)) ve vg vi vc)) (gName i)) := by
  have ok : BlkOk X.N X.env.scope scope (ownOf cc.N scope) := by
    rw [cx.hN, cx.sc]
    exact blkOk_by hb
  have sub : ∀ j ∈ vg.slots, j ∈ (ownOf cc.N scope).map (·.2) := fun j hj => by
    have := List.all_eq_true.mp hsub j hj
    simpa using this
  refine ⟨pe_imp (pe_lc (cx.cold hcold).1 cx.nd hi ok hg ht he (set_plain hset)) (lc_imp sub), fun i y py spos hy hl hsw => ?_⟩
  have := ps_setLc (cx.cold hcold).1 cx.nd hy hl hsw hi ok hg ht he (set_plain hset)
  exact ⟨fun pins s σ H D I q => this.run pins s σ H D I (lc_imp sub σ H _ q)⟩
theorem pts_yes {X : Cx} {W : WP} : PTs X [] (tCo C Γ W .tyes) := ⟨fun pins s σ H Q I q => by
  obtain ⟨S, F0, H0, F, ρ, K, E, O, hw, hx, g⟩ := q
  unfold wC at hw
  exact pts_nil.run pins s σ H Q I (g true ρ F H O Tr.refl hw)⟩
theorem isTrue_tv {e : Expr} {env : PySem.Env} (h1 : ∀ op es p, e ≠ .BoolOp op es p) (h2 : ∀ a p, e ≠ .UnaryOp .Not a p) (h3 : ∀ a b c p, e ≠ .IfExp a b c p) (h4 : ∀ a b c p, e ≠ .Compare a b c p) :
    ∀ whole, isTrue e env whole = (do let v ← whole; standAt e.pos; holding [v] (truthy v)) := fun whole => by
  cases e with
  | BoolOp op es p => exact absurd rfl (h1 op es p)
  | IfExp a b c p => exact absurd rfl (h3 a b c p)
  | Compare a b c p => exact absurd rfl (h4 a b c p)
  | UnaryOp op a p =>
    cases op with
    | Not => exact absurd rfl (h2 a p)
    | _ => rfl
  | _ => rfl
theorem own_ok {cc : CC} {x : Str} {r : Nat × Nat} (h : cc.own x = some r) : cc.hot = false ∧ cc.mtd.lookup x = some r := by
  unfold CC.own at h
  cases hh : cc.hot with
  | true => rw [hh, if_pos rfl] at h; cases h
  | false => rw [hh, if_neg Bool.false_ne_true] at h; exact ⟨rfl, h⟩
theorem iter_ok {cc : CC} {r : Nat × Nat} (h : cc.iter = some r) : cc.hot = false ∧ cc.itf = some r := by
  unfold CC.iter at h
  cases hh : cc.hot with
  | true => rw [hh, if_pos rfl] at h; cases h
  | false => rw [hh, if_neg Bool.false_ne_true] at h; exact ⟨rfl, h⟩
theorem dun_ok {cc : CC} {op : Operator} {r : Nat × Nat} (h : cc.dun op = some r) : cc.hot = false ∧ ∃ m, dunder op = some m ∧ cc.mtd.lookup m = some r := by
  unfold CC.dun at h
  cases hh : cc.hot with
  | true => rw [hh, if_pos rfl] at h; cases h
  | false =>
    rw [hh, if_neg Bool.false_ne_true] at h
    cases hd : dunder op with
    | none => rw [hd] at h; cases h
    | some m => rw [hd] at h; exact ⟨rfl, m, rfl, h⟩
theorem s_dnew {X : Cx} {W : WP} {pos : Pos} : PE X (.Dict [] [] pos) (tE C Γ W .dnew) := by
  refine ⟨fun pins s σ H Q I q => ?_⟩
  obtain ⟨S, F0, H0, F, ρ, K, E, O, hw, hx, g⟩ := q
  unfold wE at hw
  rcases hw with hw | hw
  · refine pe_dnewK.run pins s σ H Q I fun a ha => ?_
    have nn := O.new ha
    exact g (.tmp (.dicK [] [])) ρ _ _ _ (O.newO ha _) (Tr.newO ha _) ⟨a, rfl, nn.1, nn.2.1, O.noslot ha, _, upd_same, [], rfl, rfl, .nil⟩ (fun b e => by cases e; exact nn.2.2) hw
  · refine pe_dnewT.run pins s σ H Q I fun a ha => ?_
    have nn := O.new ha
    exact g (.tmp (.dicT [] [])) ρ _ _ _ (O.newO ha _) (Tr.newO ha _) ⟨a, rfl, nn.1, nn.2.1, O.noslot ha, _, upd_same, [], rfl, rfl, .nil⟩ (fun b e => by cases e; exact nn.2.2) hw
theorem s_itA {X : Cx} {cc : CC} {W : WP} (cx : Ctx C Γ X cc W) {tg e : Expr} {va : VE} (h : PE X e (tE C Γ W va)) : PI X tg e (tI C Γ W (cIt cc va)) := by
  unfold cIt
  split
  · rename_i c i hd
    obtain ⟨hcold, h2⟩ := iter_ok hd
    exact s_itO cx hcold h2 h
  · exact s_it cx h
/-- the master theorem for expressions -/
def AllE (C : CT) (Γ : Nat → VSp) (n : Nat) : Prop :=
  (∀ {X : Cx} {cc : CC} {W : WP}, Ctx C Γ X cc W → ∀ e, PE X e (tE C Γ W (cE n cc e))) ∧
  (∀ {X : Cx} {cc : CC} {W : WP}, Ctx C Γ X cc W → ∀ e, PT X e (tCo C Γ W (cC n cc e))) ∧
  ∀ {X : Cx} {cc : CC} {W : WP}, Ctx C Γ X cc W → ∀ g e, PI X g e (tI C Γ W (cI n cc g e))
theorem comp_of {n : Nat} (ih : AllE C Γ n) {X : Cx} {cc : CC} {W : WP} (cx : Ctx C Γ X cc W) {elt g it : Expr} {ifs : List Expr} {scope : Scope} {pos : Pos}
    (h : (!cc.hot && (blkC cc.N cc.sc scope (ownOf cc.N scope) && !isSet it && (cG n (cc.blk scope) g).slots.all (fun i => ((ownOf cc.N scope).map (·.2)).contains i))) = true) :
    PE X (.ListComp elt [⟨g, it, ifs, 0⟩] scope pos) (tE C Γ W (.comp ((ownOf cc.N scope).map (·.2)) (cE n (cc.blk scope) elt) (cG n (cc.blk scope) g) (cI n cc g it) (match ifs with
          | [] => .tyes
          | [t] => cC n (cc.blk scope) t
          | _ => .tv .bad))) ∧
    ∀ (i : Nat) (y : Str) (py spos : Pos), X.N[i]? = some y → X.env.scope.names.lookup y = some .local → swapsWith (.ListComp elt [⟨g, it, ifs, 0⟩] scope pos) (some (.Name y py)) spos.line X.env = pure true →
      PS X (.Assign [.Name y py] (.ListComp elt [⟨g, it, ifs, 0⟩] scope pos) spos) (tAsg (tE C Γ W (.comp ((ownOf cc.N scope).map (·.2)) (cE n (cc.blk scope) elt) (cG n (cc.blk scope) g) (cI n cc g it) (match ifs with
          | [] => .tyes
          | [t] => cC n (cc.blk scope) t
          | _ => .tv .bad))) (gName i)) := by
  obtain ⟨ihE, ihC, ihI⟩ := ih
  simp only [Bool.and_eq_true, Bool.not_eq_true'] at h
  have hcold := h.1
  refine s_comp cx h.1 h.2.1.1 h.2.1.2 h.2.2 (fun s H c cl fp => ihE (cx.blk hcold s H scope cl c fp) elt) (fun s H c cl fp => s_g (cx.blk hcold s H scope cl c fp) n g) (fun s H c cl fp => ?_) (ihI cx g it)
  match ifs with
  | [] => exact pts_yes
  | [t] => exact pts_one (ihC (cx.blk hcold s H scope cl c fp) t)
  | a :: b :: r =>
    refine ⟨fun pins s σ H Q I q => ?_⟩
    obtain ⟨_, _, _, _, _, _, _, _, z, _⟩ := q
    unfold wC wE at z
    exact z.elim
theorem allE : ∀ n, AllE C Γ n
  | 0 => ⟨fun cx e => by unfold cE; exact pe_bad, fun cx e => by unfold cC; exact pt_bad, fun cx g e => by unfold cI; exact pi_bad⟩
  | n + 1 => by
    have ih := allE n
    have ihE := @ih.1
    have ihC := @ih.2.1
    have ihI := @ih.2.2
    refine ⟨fun {X cc W} cx e => ?_, fun {X cc W} cx e => ?_, fun {X cc W} cx g e => ?_⟩
    · have hE := ihE cx
      unfold cE
      split
      · -- Name
        split
        · rename_i h
          split
          · exact s_var cx h ‹_›
          · exact pe_bad
        · split
          · rename_i h
            split
            · exact s_con cx h ‹_›
            · exact pe_bad
          · exact pe_bad
      · exact s_cst pe_int fun _ _ => rep_int
      · exact s_cst pe_bl fun _ _ => rep_bl
      · exact s_cst pe_non fun _ _ => rep_non
      · exact s_cst pe_str fun _ _ => rep_str
      · -- operators
        split
        · rename_i c k hd
          obtain ⟨hcold, m, h1, h2⟩ := dun_ok hd
          exact s_binO cx hcold h1 h2 (hE _) (hE _)
        · exact s_bin cx (hE _) (hE _)
      · split
        · rename_i c k hd
          obtain ⟨hcold, h2⟩ := own_ok hd
          exact s_negO cx hcold h2 (hE _)
        · exact s_neg cx (hE _)
      · exact s_notE cx (hE _)
      · exact s_dnew
      · exact s_ands hE _
      · exact s_ors hE _
      · split
        · exact pe_bad
        · rename_i h
          split
          · rename_i c k hd
            obtain ⟨hcold, h2⟩ := own_ok hd
            exact s_cmpO cx hcold h2 (by simpa using h) (hE _) (hE _)
          · exact s_cmp cx (by simpa using h) (hE _) (hE _)
      · split
        · exact pe_bad
        · rename_i h
          simp only [Bool.or_eq_true, not_or, Bool.not_eq_true] at h
          exact s_chn cx h.1 h.2 (hE _) (hE _) (hE _)
      · exact s_ife (ihC cx _) (hE _) (hE _)
      · split
        · rename_i h
          simp only [Bool.and_eq_true, decide_eq_true_eq] at h
          exact s_tup hE h.2 h.1
        · exact pe_bad
      · split
        · rename_i h
          simp only [Bool.and_eq_true, decide_eq_true_eq] at h
          exact s_lst hE h.2 h.1
        · exact pe_bad
      · exact s_sl cx (hE _) (s_po hE _) (s_po hE _)
      · split
        · exact pe_bad
        · rename_i h
          exact s_ix cx (by simpa using h) (hE _) (hE _)
      · -- calls of names
        rename_i f p args pos
        split
        · split
          · exact pe_bad
          · rename_i h
            simp only [Bool.or_eq_true, not_or, Bool.not_eq_true, Bool.not_eq_true', Bool.not_eq_false] at h
            obtain ⟨⟨hg, hs⟩, hne⟩ := h
            split
            · rename_i c k i hd hi
              obtain ⟨hcold, h2⟩ := own_ok hd
              cases args with
              | nil => cases hne
              | cons a as => exact s_calO cx hcold hE hg hi h2 hs
            · exact pe_bad
        · rename_i h
          simp only [Bool.or_eq_true, not_or, Bool.not_eq_true, Bool.not_eq_true', Bool.not_eq_false] at h
          obtain ⟨⟨hg, hs⟩, hne⟩ := h
          cases args with
          | nil => cases hne
          | cons a as =>
            split
            · rename_i k hk
              exact s_call cx hE hg hk hs
            · split
              · rename_i k hk
                have hcold : cc.hot = false := by
                  cases hh : cc.hot with
                  | false => rfl
                  | true => rw [hh] at hk; cases hk
                rw [hcold, if_neg Bool.false_ne_true] at hk
                exact s_mk cx hcold hE hg hk hs
              · split
                · exact pe_bad
                · rename_i hf
                  have hf : cc.free f = true := by simpa using hf
                  have hst : isStar a = false := by unfold noStars at hs; simp only [List.all_cons, Bool.and_eq_true, Bool.not_eq_true'] at hs; exact hs.1
                  split
                  · rename_i hl
                    simp only [Bool.and_eq_true, decide_eq_true_eq] at hl
                    obtain ⟨e1, _⟩ := hl
                    subst e1
                    split
                    · rename_i c i b hd he
                      cases he
                      obtain ⟨hcold, h2⟩ := iter_ok hd
                      exact s_lstO cx hcold hf h2 hst (hE _)
                    · exact pe_bad
                  · split
                    · rename_i hl
                      simp only [Bool.and_eq_true, decide_eq_true_eq] at hl
                      obtain ⟨e1, _⟩ := hl
                      subst e1
                      split
                      · rename_i c k b hd he
                        cases he
                        obtain ⟨hcold, h2⟩ := own_ok hd
                        exact s_lenO cx hcold hf h2 hst (hE _)
                      · exact pe_bad
                    · split
                      · rename_i hl
                        simp only [Bool.and_eq_true, decide_eq_true_eq] at hl
                        obtain ⟨e1, hr, hcold⟩ := hl
                        have hcold : cc.hot = false := by simpa using hcold
                        subst e1
                        obtain ⟨h2, hr⟩ := isRange_ok hr
                        rcases hr with ⟨p', pos', b, e, hb⟩ | ⟨p', pos', b, c, e, hb, hc⟩
                        · rw [e]
                          exact s_lrg1 cx hcold hf h2 hb (hE _)
                        · rw [e]
                          exact s_lrg2 cx hcold hf h2 hb hc (hE _) (hE _)
                      · split
                        · rename_i hi
                          simp only [decide_eq_true_eq] at hi
                          subst hi
                          split
                          · rename_i b t p2 he
                            cases he
                            split
                            · rename_i m hm
                              by_cases ht : cc.free t = true
                              · rw [if_pos ht] at hm
                                exact s_isin cx hf ht hm hst (hE _)
                              · rw [if_neg ht] at hm
                                cases hm
                            · split
                              · rename_i hc
                                rw [Bool.and_eq_true] at hc
                                split
                                · exact s_isinX cx hf hc.1 hc.2 ‹_› hst (hE _)
                                · exact pe_bad
                              · exact pe_bad
                          · exact pe_bad
                        · split
                          · split
                            · exact s_blt cx hE hf ‹_› hs ‹_›
                            · exact pe_bad
                          · exact pe_bad
      · -- methods
        rename_i o m ap args cp
        split
        · exact pe_bad
        · rename_i h
          simp only [Bool.or_eq_true, not_or, Bool.not_eq_true, Bool.not_eq_true', Bool.not_eq_false, decide_eq_true_eq] at h
          obtain ⟨⟨⟨hs, hl⟩, hn⟩, hp⟩ := h
          split
          · rename_i c k hd
            obtain ⟨hcold, h2⟩ := own_ok hd
            exact s_mcl cx hcold hE hp h2 hs (by simpa using hn) hl
          · split
            · exact s_met cx hE (plain_base hp) ‹_› hs (by simpa using hn) hl
            · exact pe_bad
      · -- calls of subscripts
        rename_i o i sp args pos
        split
        · exact pe_bad
        · rename_i h
          simp only [Bool.or_eq_true, not_or, Bool.not_eq_true, Bool.not_eq_true', Bool.not_eq_false] at h
          obtain ⟨hs, hne⟩ := h
          split
          · rename_i c k hd
            obtain ⟨hcold, h2⟩ := own_ok hd
            cases args with
            | nil => cases hne
            | cons a as => exact s_calE cx hcold hE h2 hs
          · exact pe_bad
      · -- fields
        split
        · split
          · split
            · exact s_fldX cx ‹_› ‹_› (hE _)
            · exact pe_bad
          · split
            · exact s_fldO cx ‹_› (hE _)
            · exact pe_bad
        · exact pe_bad
      · -- comprehensions
        split
        · exact (comp_of ih cx ‹_›).1
        · exact pe_bad
      · exact pe_bad
    · unfold cC
      split
      · exact s_tnot (ihC cx _)
      · exact (s_tands (ihC cx) _).pt
      · exact (s_tors (ihC cx) _).pt
      · exact pt_bad
      · split
        · exact pt_bad
        · rename_i h
          split
          · rename_i c k hd
            obtain ⟨hcold, h2⟩ := own_ok hd
            exact s_cmpOT cx hcold h2 (by simpa using h) (ihE cx _) (ihE cx _)
          · exact s_cmpT cx (by simpa using h) (ihE cx _) (ihE cx _)
      · split
        · exact pt_bad
        · rename_i h
          simp only [Bool.or_eq_true, not_or, Bool.not_eq_true] at h
          exact s_chnT cx h.1 h.2 (ihE cx _) (ihE cx _) (ihE cx _)
      · exact pt_bad
      · rename_i h1 h2 h3 h4 h5 h6 h7
        refine s_tv cx (ihE cx _) (isTrue_tv (fun op es p z => ?_) (fun a p z => ?_) (fun a b c p z => ?_) (fun a b c p z => ?_))
        all_goals subst z
        · cases op
          · exact h2 _ _ rfl
          · exact h3 _ _ rfl
        · exact h1 _ _ rfl
        · exact h4 _ _ _ _ rfl
        · exact h7 _ _ _ _ rfl
    · unfold cI
      split
      · rename_i f p args pos
        split
        · exact s_itA cx (ihE cx _)
        · rename_i h
          simp only [Bool.or_eq_true, not_or, Bool.not_eq_true, Bool.not_eq_true', Bool.not_eq_false] at h
          obtain ⟨hf, hs⟩ := h
          unfold noStars at hs
          split
          · rename_i e
            simp only [decide_eq_true_eq] at e
            subst e
            split
            · simp only [List.all_cons, List.all_nil, Bool.and_true, Bool.not_eq_true'] at hs
              exact s_rng1 cx hf hs (ihE cx _)
            · simp only [List.all_cons, List.all_nil, Bool.and_true, Bool.and_eq_true, Bool.not_eq_true'] at hs
              exact s_rng2 cx hf hs.1 hs.2 (ihE cx _) (ihE cx _)
            · exact pi_bad
          · split
            · rename_i e
              simp only [decide_eq_true_eq] at e
              subst e
              split
              · simp only [List.all_cons, List.all_nil, Bool.and_true, Bool.not_eq_true'] at hs
                exact s_enum cx hf hs (ihE cx _)
              · exact pi_bad
            · split
              · rename_i e
                simp only [decide_eq_true_eq] at e
                subst e
                split
                · simp only [List.all_cons, List.all_nil, Bool.and_true, Bool.and_eq_true, Bool.not_eq_true'] at hs
                  exact s_zip cx hf hs.1 hs.2 (ihE cx _) (ihE cx _)
                · simp only [List.all_cons, List.all_nil, Bool.and_true, Bool.and_eq_true, Bool.not_eq_true'] at hs
                  exact s_zip3 cx hf hs.1 hs.2.1 hs.2.2 (ihE cx _) (ihE cx _) (ihE cx _)
                · exact pi_bad
              · exact s_itA cx (ihE cx _)
      · exact s_itA cx (ihE cx _)
end
end VL
set_option maxHeartbeats 4000000
/-! VLk: statements, defs. -/
namespace VL
open PySem PySem.Spec PyProof.Rows L2
structure EOK (C : CT) (S : SG) (F0 H0 : Hp) (Dv : VEnds) (D : Ends) : Prop where
  nx : ∀ σ ρ F H, OK C S F0 H0 F H σ ρ → Dv.nx ρ → D.nx σ H
  bk : ∀ σ ρ F H, OK C S F0 H0 F H σ ρ → Dv.bk ρ → D.bk σ H
  ct : ∀ σ ρ F H, OK C S F0 H0 F H σ ρ → Dv.ct ρ → D.ct σ H
  rt : ∀ o d v F' H', Ext S F0 H0 F' H' → Res C S H0 F' H' o d v → Dv.rt o d → D.rt v H'
def tS (C : CT) (Γ : Nat → VSp) (W : WP) (s : VS) : TS := fun D σ H => ∃ (S : SG) (F0 H0 F : Hp) (ρ : En) (Dv : VEnds) (E : VL.XK), OK C S F0 H0 F H σ ρ ∧ wS Γ s ρ Dv E ∧ XOK C S F0 H0 W E ∧ EOK C S F0 H0 Dv D
def tSs (C : CT) (Γ : Nat → VSp) (W : WP) (s : VSs) : TS := fun D σ H => ∃ (S : SG) (F0 H0 F : Hp) (ρ : En) (Dv : VEnds) (E : VL.XK), OK C S F0 H0 F H σ ρ ∧ wSs Γ s ρ Dv E ∧ XOK C S F0 H0 W E ∧ EOK C S F0 H0 Dv D
section
variable {C : CT} {Γ : Nat → VSp} {X : Cx} {cc : CC} {W : WP}
theorem ps_imp {s : Stmt} {t t' : TS} (h : PS X s t) (i : ∀ D σ H, t' D σ H → t D σ H) : PS X s t' := ⟨fun pins s σ H D I q => h.run pins s σ H D I (i D σ H q)⟩
theorem pss_imp {s : List Stmt} {t t' : TS} (h : PSs X s t) (i : ∀ D σ H, t' D σ H → t D σ H) : PSs X s t' := ⟨fun pins s σ H D I q => h.run pins s σ H D I (i D σ H q)⟩
theorem ps_bad {s : Stmt} : PS X s (tS C Γ W .bad) := ⟨fun pins s σ H D I q => by
  obtain ⟨_, _, _, _, _, _, _, _, z, _⟩ := q
  unfold wS at z
  exact z.elim⟩
theorem OK.ext {S : SG} {F0 H0 F H : Hp} {σ : L2.St} {ρ : En} (O : OK C S F0 H0 F H σ ρ) : Ext S F0 H0 F H := ⟨O.f0, O.sub, O.fr, O.fn, O.sto⟩
theorem OK.self {S : SG} {F0 H0 F H : Hp} {σ : L2.St} {ρ : En} (O : OK C S F0 H0 F H σ ρ) : OK C S F H0 F H σ ρ := { O with f0 := Sub.refl F, fn := fun a o e => .inl e }
theorem OK.re {S : SG} {F0 H0 F H F' H' : Hp} {σ σ' : L2.St} {ρ ρ' : En} (O : OK C S F0 H0 F H σ ρ) (O' : OK C S F H0 F' H' σ' ρ') : OK C S F0 H0 F' H' σ' ρ' := { O' with f0 := O.f0.trans O'.f0, fn := fun a o e => (O'.fn a o e).elim (O.fn a o) .inr }
theorem OK.reExt {S : SG} {F0 H0 F H F' H' : Hp} {σ : L2.St} {ρ : En} (O : OK C S F0 H0 F H σ ρ) (e : Ext S F H0 F' H') : Ext S F0 H0 F' H' := { e with f := O.f0.trans e.f, fn := fun a o q => (e.fn a o q).elim (O.fn a o) .inr }
theorem res_of {S : SG} {F0 H0 F H : Hp} {σ : L2.St} {ρ : En} {r : R} {v : V} {K : Bool → D → Prop} (O : OK C S F0 H0 F H σ ρ) (q : RRep C S H0 F H σ ρ r v) (f : RFresh F ρ r v) (h : retR r K) : ∃ o, Res C S H0 F H o r.d v ∧ K o r.d := by
  cases r with
  | val d => exact ⟨false, q, h⟩
  | tmp d =>
    obtain ⟨a, e, h0, hp, n, k⟩ := q
    exact ⟨true, ⟨a, e, h0, f a e, hp, k⟩, h⟩
  | var i d =>
    obtain ⟨a, e1, k⟩ := O.own i d f
    have q' : σ[i]? = some (some v) := q
    rw [q'] at e1
    cases e1
    exact ⟨true, ⟨a, rfl, k⟩, h⟩
theorem k_ret {e : Expr} {ve : VE} {pos : Pos} (h : PE X e (tE C Γ W ve)) : PS X (.Return (some e) pos) (tS C Γ W (.ret ve)) := by
  refine ps_imp (ps_ret h) ?_
  rintro D σ H ⟨S, F0, H0, F, ρ, Dv, E, O, hw, hx, g⟩
  unfold wS at hw
  refine ⟨S, F0, H0, F, ρ, _, E, O, hw, hx, fun r ρ' v F' H' O' t' q' f' hk => ?_⟩
  obtain ⟨o, hr, hk⟩ := res_of O' q' f' hk
  exact g.rt o _ v F' H' O'.ext hr hk
theorem k_retN {pos : Pos} : PS X (.Return none pos) (tS C Γ W .retN) := by
  refine ps_imp ps_retN ?_
  rintro D σ H ⟨S, F0, H0, F, ρ, Dv, E, O, hw, hx, g⟩
  unfold wS at hw
  exact g.rt false .non .non F H O.ext (rep_non (C := C) (S := S) (F := F)) hw
theorem k_pass {pos : Pos} : PS X (.Pass pos) (tS C Γ W .pass) := by
  refine ps_imp ps_pass ?_
  rintro D σ H ⟨S, F0, H0, F, ρ, Dv, E, O, hw, hx, g⟩
  unfold wS at hw
  exact g.nx _ _ _ _ O hw
theorem k_doc {x : Str} {j : Nat} {pos pos' : Pos} : PS X (.Expr (.Constant (.str x) j pos) pos') (tS C Γ W .pass) := by
  refine ps_imp ps_doc ?_
  rintro D σ H ⟨S, F0, H0, F, ρ, Dv, E, O, hw, hx, g⟩
  unfold wS at hw
  exact g.nx _ _ _ _ O hw
theorem k_brk {pos : Pos} : PS X (.Break pos) (tS C Γ W .brk) := by
  refine ps_imp ps_break ?_
  rintro D σ H ⟨S, F0, H0, F, ρ, Dv, E, O, hw, hx, g⟩
  unfold wS at hw
  exact g.bk _ _ _ _ O hw
theorem k_cnt {pos : Pos} : PS X (.Continue pos) (tS C Γ W .cnt) := by
  refine ps_imp ps_continue ?_
  rintro D σ H ⟨S, F0, H0, F, ρ, Dv, E, O, hw, hx, g⟩
  unfold wS at hw
  exact g.ct _ _ _ _ O hw
theorem k_ex {e : Expr} {ve : VE} {pos : Pos} (hs : swapsWith e none pos.line X.env = pure false) (h : PE X e (tE C Γ W ve)) : PS X (.Expr e pos) (tS C Γ W (.ex ve)) := by
  refine ps_imp (ps_expr h hs) ?_
  rintro D σ H ⟨S, F0, H0, F, ρ, Dv, E, O, hw, hx, g⟩
  unfold wS at hw
  exact ⟨S, F0, H0, F, ρ, _, E, O, hw, hx, fun r ρ' v F' H' O' t' q' f' hk => g.nx _ _ _ _ O' hk⟩
theorem k_asg {e tg : Expr} {ve : VE} {vg : VG} {t : TG} {s : Stmt} (h : PS X s (tAsg (tE C Γ W ve) t)) (hi : ∀ v σ H Q, tG C vg v σ H Q → t v σ H Q) : PS X s (tS C Γ W (.asg vg ve)) := by
  refine ps_imp h ?_
  rintro D σ H ⟨S, F0, H0, F, ρ, Dv, E, O, hw, hx, g⟩
  unfold wS at hw
  exact ⟨S, F0, H0, F, ρ, _, E, O, hw, hx, fun r ρ' v F' H' O' t' q' f' hk => hi v σ H' _ ⟨S, F0, H0, F', ρ', r, _, O', q', f', hk, fun σ2 ρ2 F2 O2 _ _ _ _ hk2 => g.nx _ _ _ _ O2 hk2⟩⟩
theorem k_if {c : Expr} {a b : List Stmt} {vc : VC} {va vb : VSs} {pos : Pos} (hc : PT X c (tCo C Γ W vc)) (ha : PSs X a (tSs C Γ W va)) (hb : PSs X b (tSs C Γ W vb)) : PS X (.If c a b pos) (tS C Γ W (.ifS vc va vb)) := by
  refine ps_imp (ps_if hc ha hb) ?_
  rintro D σ H ⟨S, F0, H0, F, ρ, Dv, E, O, hw, hx, g⟩
  unfold wS at hw
  refine ⟨S, F0, H0, F, ρ, _, E, O, hw, hx, fun c ρ' F' H' O' t' hk => ?_⟩
  cases c with
  | true => exact L2.iteT ⟨S, F0, H0, F', ρ', Dv, E, O', hk.1 rfl, hx, g⟩
  | false => exact L2.iteF ⟨S, F0, H0, F', ρ', Dv, E, O', hk.2 rfl, hx, g⟩
theorem k_list {f : Stmt → VS} (h : ∀ s, PS X s (tS C Γ W (f s))) : ∀ ss : List Stmt, PSs X ss (tSs C Γ W (mapS f ss))
  | [] => by
    refine pss_imp pss_nil ?_
    rintro D σ H ⟨S, F0, H0, F, ρ, Dv, E, O, hw, hx, g⟩
    unfold mapS wSs at hw
    exact g.nx _ _ _ _ O hw
  | s :: ss => by
    refine pss_imp (pss_cons (h s) (k_list h ss)) ?_
    rintro D σ H ⟨S, F0, H0, F, ρ, Dv, E, O, hw, hx, g⟩
    unfold mapS wSs at hw
    exact ⟨S, F0, H0, F, ρ, _, E, O, hw, hx, ⟨fun σ' ρ' F' H' O' hk => ⟨S, F0, H0, F', ρ', Dv, E, O', hk, hx, g⟩, g.bk, g.ct, g.rt⟩⟩
theorem k_aug (cx : Ctx C Γ X cc W) {x : Str} {i : Nat} {op : Operator} {e : Expr} {ve : VE} {p pos : Pos} (hv : cc.see x = true) (hp : cc.put x = true) (hi : ixOf x cc.N = some i) (h : PE X e (tE C Γ W ve)) : PS X (.AugAssign (.Name x p) op e pos) (tS C Γ W (.aug i op ve)) := by
  have hl : Loc X.env.scope x ∧ (X.fn x = true ∨ X.env.scope.names.lookup x = some .local) := by
    unfold CC.put CC.kind at hp
    rw [cx.sc, cx.fn]
    split at hp
    · exact ⟨.inl ‹_›, .inr ‹_›⟩
    · exact ⟨.inr ‹_›, .inl hp⟩
    · cases hp
  have fin : ∀ (ti : TIp), PIp X op ti → (∀ (S : SG) (F0 H0 F : Hp) (σ : L2.St) (H : Hp) (ρ : En) (x y : R) (v w : V) (K : En → Prop) (Q : VK), OK C S F0 H0 F H σ ρ → View C S F H x.d v → View C S F H y.d w → vAug i op x y ρ K →
      (∀ d u, Rep C S F d u → K (ρ.set i (.val d)) → Q u H) → ti v w H Q) → PS X (.AugAssign (.Name x p) op e pos) (tS C Γ W (.aug i op ve)) := fun ti hti hh => by
    refine ps_imp (ps_aug cx.nd (cx.slot hi) hl.1 h hti hl.2) ?_
    rintro D σ H ⟨S, F0, H0, F, ρ, Dv, E, O, hw, hx, g⟩
    unfold wS look at hw
    have main : ∀ (r : R) (v : V), σ[i]? = some (some v) → RRep C S H0 F H σ ρ r v → wE Γ ve ρ (fun y ρ1 => r.lv ρ1 (vAug i op r y ρ1 Dv.nx)) E → tAug i (tE C Γ W ve) ti D σ H := fun r v hv q hw => by
      refine ⟨v, hv, S, F0, H0, F, ρ, _, E, O, hw, hx, fun y ρ1 w F1 H1 O1 t1 q1 f1 hk => ?_⟩
      obtain ⟨w1, hk⟩ := view_of O1 (q.tr t1) hk
      obtain ⟨w2, _⟩ := view_of O1 q1 f1.lv
      exact hh S F0 H0 F1 σ H1 ρ1 r y v w _ _ O1 w1 w2 hk fun d u hu hk => g.nx _ _ _ _ (O1.setVal i hu) hk
    split at hw
    · rename_i d hd
      obtain ⟨v, e, r⟩ := O.val i d hd
      exact main (.val d) v e r hw
    · rename_i d hd
      obtain ⟨a, e, r⟩ := O.own i d hd
      exact main (.var i d) (.ref a) e e hw
    · exact hw.elim
  have no : PIp X op (fun _ _ _ _ => False) := fun _ _ _ _ _ _ _ _ _ _ _ _ z => z.elim
  cases op with
  | Add =>
    refine fin _ ip_add fun S F0 H0 F σ H ρ x y v w K Q O hx hy hv k => ?_
    unfold vAug at hv
    split at hv
    · rename_i e1 e2
      exact ⟨_, _, hx.asInt e1, hy.asInt e2, k _ _ rep_int hv⟩
    · rename_i hz _ _; cases hz
    · exact hv.elim
  | Sub =>
    refine fin _ ip_sub fun S F0 H0 F σ H ρ x y v w K Q O hx hy hv k => ?_
    unfold vAug at hv
    split at hv
    · rename_i hz _ _; cases hz
    · rename_i e1 e2
      exact ⟨_, _, hx.asInt e1, hy.asInt e2, k _ _ rep_int hv⟩
    · exact hv.elim
  | _ =>
    refine fin _ no fun S F0 H0 F σ H ρ x y v w K Q O hx hy hv k => ?_
    unfold vAug at hv
    split at hv <;> first | (rename_i hz _ _; cases hz; done) | exact hv.elim
theorem k_whl (cx : Ctx C Γ X cc W) {c : Expr} {b : List Stmt} {vc : VC} {vb : VSs} {pos : Pos} (hc : PT X c (tCo C Γ W vc)) (hb : PSs X b (tSs C Γ W vb)) : PS X (.While c b [] pos) (tS C Γ W (.whl vc vb)) := by
  refine ps_imp (ps_while cx.po hc hb) ?_
  rintro D σ H ⟨S, F0, H0, F, ρ, Dv, E, O, hw, hx, g⟩
  unfold wS at hw
  obtain ⟨Wv, ⟨m0, w0⟩, turn⟩ := hw
  refine ⟨fun m σ H => ∃ F ρ, OK C S F0 H0 F H σ ρ ∧ Wv m ρ, ⟨m0, F, ρ, O, w0⟩, fun m σ1 H1 ⟨F1, ρ1, O1, w1⟩ => ⟨S, F0, H0, F1, ρ1, _, E, O1, turn m ρ1 w1, hx, fun k ρ' F' H' O' t' hk => ?_⟩⟩
  cases k with
  | true =>
    refine L2.iteT ⟨fun σ' H' => ∃ m', m' < m ∧ ∃ F ρ, OK C S F0 H0 F H' σ' ρ ∧ Wv m' ρ, fun σ' H' h => h, S, F0, H0, F', ρ', _, E, O', hk.1 rfl, hx, ⟨fun σ2 ρ2 F2 H2 O2 ⟨m', hm, hw⟩ => ⟨m', hm, F2, ρ2, O2, hw⟩, fun σ2 ρ2 F2 H2 O2 hw => g.nx _ _ _ _ O2 hw, fun σ2 ρ2 F2 H2 O2 ⟨m', hm, hw⟩ => ⟨m', hm, F2, ρ2, O2, hw⟩, g.rt⟩⟩
  | false => exact L2.iteF (g.nx _ _ _ _ O' (hk.2 rfl))
theorem k_for (cx : Ctx C Γ X cc W) (hcold : cc.hot = false) {tg it : Expr} {b : List Stmt} {vg : VG} {vi : VI} {vb : VSs} {pos : Pos} (hset : isSet it = false) (hi : PI X tg it (tI C Γ W vi)) (hg : PG X tg (tG C vg)) (hb : PSs X b (tSs C Γ W vb)) : PS X (.For tg it b [] pos) (tS C Γ W (.forS vg vi vb)) := by
  refine ps_imp (ps_for cx.po (cx.cold hcold).1 hi hg hb (set_plain hset)) ?_
  rintro D σ H ⟨S, F0, H0, F, ρ, Dv, E, O, hw, hx, g⟩
  unfold wS at hw
  refine ⟨S, F0, H0, F, ρ, _, E, O, hw, hx, fun ds ρ1 J F1 H1 O1 t1 wk hk => ?_⟩
  have hk : forL (fun d ρ2 nx bk => wG vg (.val d) ρ2 fun ρ3 => wSs Γ vb ρ3 { nx := nx, rt := Dv.rt, bk := bk, ct := nx } E) Dv.nx ds ρ1 := hk
  generalize hst : (fun d ρ2 nx bk => wG vg (.val d) ρ2 fun ρ3 => wSs Γ vb ρ3 { nx := nx, rt := Dv.rt, bk := bk, ct := nx } E : VL.D → En → (En → Prop) → (En → Prop) → Prop) = step at hk
  refine ⟨fun i m σ H => m = ds.length - i ∧ i ≤ ds.length ∧ ∃ F' ρ', OK C S F0 H0 F' H σ ρ' ∧ Sub F1 F' ∧ forL step Dv.nx (ds.drop i) ρ', ⟨ds.length, by simp, Nat.zero_le _, F1, ρ1, O1, Sub.refl F1, hk⟩, ?_⟩
  rintro i m σ2 H2 ⟨rfl, hle, F2, ρ2, O2, s2, hk2⟩
  by_cases hlt : i < ds.length
  · refine .inr ⟨wk.go i H2 (s2.trans O2.sub) hlt, fun σ' H' => ∃ F' ρ', OK C S F0 H0 F' H' σ' ρ' ∧ Sub F1 F' ∧ forL step Dv.nx (ds.drop (i + 1)) ρ', fun σ' H' h => ⟨ds.length - (i + 1), by omega, rfl, hlt, h⟩, fun x Hy y => ?_⟩
    have hdr : ds.drop i = ds[i] :: ds.drop (i + 1) := List.drop_eq_getElem_cons hlt
    rw [hdr] at hk2
    have hk2 : step ds[i] ρ2 (forL step Dv.nx (ds.drop (i + 1))) Dv.nx := hk2
    rw [← hst] at hk2
    have yy : ∃ F3, OK C S F0 H0 F3 Hy σ2 ρ2 ∧ Sub F1 F3 ∧ Rep C S F3 ds[i] x := by
      rcases wk.yld i H2 x Hy ds[i] (s2.trans O2.sub) (List.getElem?_eq_getElem hlt) y with ⟨e, rx⟩ | ⟨T, ts, es, e1, hT, e2, e3, rt⟩
      · subst e
        exact ⟨F2, O2, s2, rx.mono s2⟩
      · subst e1 e2
        have nT := O2.new hT
        refine ⟨upd F2 T (.tup ts), O2.newF hT _, s2.trans (Sub.upd nT.2.2), ?_⟩
        rw [e3]
        exact ⟨T, ts, rfl, upd_same, rt.mono (s2.trans (Sub.upd nT.2.2))⟩
    obtain ⟨F3, O3, s3, rx⟩ := yy
    refine ⟨S, F0, H0, F3, ρ2, .val ds[i], _, O3, rx, trivial, hk2, fun σ4 ρ4 F4 O4 s4 _ _ _ hk4 => ?_⟩
    have s14 : Sub F1 F4 := s3.trans s4
    refine ⟨S, F4, H0, F4, ρ4, _, E, O4.self, hk4, ⟨hx.1, fun x ρ F H σ cls dx O q e => hx.2 x ρ F H σ cls dx (O4.re O) q e⟩, ⟨?_, ?_, ?_, ?_⟩⟩
    · exact fun σ5 ρ5 F5 H5 O5 hk5 => ⟨F5, ρ5, O4.re O5, s14.trans O5.f0, by subst hst; exact hk5⟩
    · exact fun σ5 ρ5 F5 H5 O5 hk5 => g.nx _ _ _ _ (O4.re O5) hk5
    · exact fun σ5 ρ5 F5 H5 O5 hk5 => ⟨F5, ρ5, O4.re O5, s14.trans O5.f0, by subst hst; exact hk5⟩
    · exact fun o d v F5 H5 e5 q5 r5 => g.rt o d v F5 H5 (O4.reExt e5) q5 r5
  · have e : i = ds.length := by omega
    subst e
    rw [List.drop_length] at hk2
    exact .inl ⟨wk.stop H2 (s2.trans O2.sub), g.nx _ _ _ _ O2 hk2⟩
theorem assign_sub {o i : Expr} {p : Pos} {env : PySem.Env} (hi : isSlice i = false) : ∀ v, assign (.Subscript o i p) env v = (do
      let ov ← holding [v] (eval o env)
      let iv ← holding [v, ov] (eval i env)
      standAt p
      holding [v, ov, iv] (setItem ov iv v)
      release [v, ov, iv] []) := by
  intro v
  cases i <;> first | rfl | cases hi
theorem augStore_sub {i : Expr} (hi : isSlice i = false) : ∀ ov iv new, augStore i ov iv new = (do holding [new, ov, iv] (setItem ov iv new); release [new, ov, iv] []; pure .next) := by
  intro ov iv new
  cases i <;> first | rfl | cases hi
theorem swaps_sub {o i e : Expr} {p : Pos} {l : Nat} {env : PySem.Env} : swapsWithSole [.Subscript o i p] e l env = pure false := by
  cases e <;> rfl
theorem stores_sub {o i e : Expr} {p : Pos} {env : PySem.Env} : swappedStores [.Subscript o i p] e env = pure none := by
  cases e <;> rfl
theorem k_setix (cx : Ctx C Γ X cc W) {a i e : Expr} {va vi ve : VE} {p pos : Pos} (hs : isSlice i = false) (ha : PE X a (tE C Γ W va)) (hi : PE X i (tE C Γ W vi)) (he : PE X e (tE C Γ W ve)) : PS X (.Assign [.Subscript a i p] e pos) (tS C Γ W (.setix va vi ve)) := by
  refine ps_imp (ps_asg he (pg_sub ha hi (set_V (C := C) cx.un) (assign_sub hs)) swaps_sub stores_sub) ?_
  rintro D σ H ⟨S, F0, H0, F, ρ, Dv, E, O, hw, hx, g⟩
  unfold wS at hw
  refine ⟨S, F0, H0, F, ρ, _, E, O, hw, hx, fun r ρ1 v F1 H1 O1 t1 q1 f1 hw1 => ⟨S, F0, H0, F1, ρ1, _, E, O1, hw1, hx, fun x ρ2 o F2 H2 O2 t2 q2 f2 hw2 => ⟨S, F0, H0, F2, ρ2, _, E, O2, hw2, hx, fun k ρ3 i F3 H3 O3 t3 q3 f3 hk => ?_⟩⟩⟩
  obtain ⟨l1, hk⟩ := lv_iff.mp hk
  obtain ⟨l2, hk⟩ := lv_iff.mp hk
  obtain ⟨l3, hk⟩ := lv_iff.mp hk
  exact ⟨S, F0, H0, F3, σ, ρ3, x, k, r, Dv.nx, O3, q2.tr t3, q3, (q1.tr t2).tr t3, l2, l3, l1, hk, fun ρ' F' H' O' _ hk' => g.nx _ _ _ _ O' hk'⟩
theorem vIp_mono {op : Operator} {x y : D} {K K' : D → Prop} (h : ∀ b, K b → K' b) (t : vIp op x y K) : vIp op x y K' := by
  unfold vIp at t ⊢
  split at t <;> first | exact h _ t | exact t
theorem k_augix (cx : Ctx C Γ X cc W) {a i e : Expr} {va vi ve : VE} {op : Operator} {p pos : Pos} (hs : isSlice i = false) (ha : PE X a (tE C Γ W va)) (hi : PE X i (tE C Γ W vi)) (he : PE X e (tE C Γ W ve)) : PS X (.AugAssign (.Subscript a i p) op e pos) (tS C Γ W (.augix va vi op ve)) := by
  refine ps_imp (ps_augS ha hi (get_V cx.K cx.un) he (ip_V (C := C) op) (set_V (C := C) cx.un) (augStore_sub hs)) ?_
  rintro D σ H ⟨S, F0, H0, F, ρ, Dv, E, O, hw, hx, g⟩
  unfold wS at hw
  refine ⟨S, F0, H0, F, ρ, _, E, O, hw, hx, fun x ρ1 o F1 H1 O1 t1 q1 f1 hw1 => ⟨S, F0, H0, F1, ρ1, _, E, O1, hw1, hx, fun k ρ2 i F2 H2 O2 t2 q2 f2 hk => ?_⟩⟩
  obtain ⟨l1, hk⟩ := lv_iff.mp hk
  obtain ⟨l2, ho, hk⟩ := lv_iff.mp hk
  obtain ⟨w1, _⟩ := view_of O2 (q1.tr t2) l1
  obtain ⟨w2, _⟩ := view_of O2 q2 l2
  refine ⟨S, F2, _, _, O2.sub, w1, w2, ho, vIx_mono (fun d0 hk v0 r0 => ?_) hk⟩
  refine ⟨S, F0, H0, F2, ρ2, _, E, O2, hk, hx, fun y ρ3 u F3 H3 O3 t3 q3 f3 hk3 => ?_⟩
  obtain ⟨l3, hk3⟩ := lv_iff.mp hk3
  obtain ⟨w3, _⟩ := view_of O3 q3 l3
  refine ⟨S, F3, d0, _, View.of O3.sub (r0.mono t3.f), w3, vIp_mono (fun d hk v r => ?_) hk3⟩
  obtain ⟨m1, hk⟩ := lv_iff.mp hk
  obtain ⟨m2, hk⟩ := lv_iff.mp hk
  exact ⟨S, F0, H0, F3, σ, ρ3, x, k, .val d, Dv.nx, O3, (q1.tr t2).tr t3, q2.tr t3, r, m1, m2, trivial, hk, fun ρ' F' H' O' _ hk' => g.nx _ _ _ _ O' hk'⟩
end
end VL
set_option maxHeartbeats 4000000
/-! VLl: raise, try, every statement. -/
namespace VL
open PySem PySem.Spec PyProof.Rows L2

/-! ### raise -/
/-- C's own __init__(self, f, ..): self.f = f .. -/
def initSp (C : Addr) (fs : List Str) : Sp := fun vs H Q E => ∃ a ws, vs = .ref a :: ws ∧ ws.length = fs.length ∧ H a = some (exo a C none) ∧
  ∀ dx H', H dx = none → dx ≠ a → H' a = some (exo a C (some dx)) → H' dx = some (exd dx (fs.zip ws).reverse) → (∀ b, b ≠ a → b ≠ dx → H' b = H b) → Q .non H'
theorem pmk_oexN {X : Cx} {CX : CXT} {x : Str} {e : Expr} {es : List Expr} {ta : TA} {p pos : Pos} {C fI : Addr} {k : Nat} {fd : FuncData} {ps : List Str} {sp : Sp} (T : OexC X.K C) (iC : PySem.W.findIn X.K (.ref C) "__init__" = some (some (.ref fI))) (tI : PySem.W.typeIn X.K (.ref fI) = some (.type "function"))
    (F1 : FnOk X.prog X.w X.K X.mg X.base CX k fI fd ps sp) (hr : Room (k + 1) X.A) (hb : Binds X.K fd ps []) (hx : Passes CX X (fun _ _ _ => False)) (hg : Gl X x) (hm : X.mg x = some (.ref C)) (ha : PA X (e :: es) ta)
    (hdb : (x == ("__debug__" : Str)) = false) (he : starEach (e :: es) X.env = (false, eval e X.env) :: starEach es X.env) (hpl : (backTo pos (starEach es X.env)).any (·.1) = false) :
    L2N.PMk X (.Call (.Name x p) (e :: es) [] pos) (tMkO C sp [] ta) := by
  intro pins s σ H Q I h
  obtain ⟨nm, q, N, bs, bm, sn, sub, ab, col, dd, k0, k1, k2, k3, k5, hC, hbm⟩ := T.cls
  refine wpAny_Call_Name_kw (ld_glob I hg hm ?_ hdb)
  refine PySem.W.callWith_K (h₀ := X.base) I.ok.mod.kin T.kC (thn (ha.run pos pins s σ H _ I h) fun us s1 ⟨vs, H1, I1, r1, hz, q1⟩ => ⟨I1.kIn, ?_⟩) he hpl
  show wpAny _ _ (call (.ref C) us) _ _ _
  obtain ⟨hp, g, dr, tk, os⟩ := s1
  have hsz : hp.objs.size ≤ hp.objs.size + 1 := Nat.le_succ _
  have hn : H1 (hp.objs.size + 1) = none := I1.hok.fresh hsz
  have hq := q1 (hp.objs.size + 1) hn
  rw [List.append_nil] at hq
  have kk : ∀ b o, hp.get? b = some o → ((hp.push (PySem.W.kdv_tup us)).push (PySem.HandSPX.excO C hp.objs.size)).get? b = some o := fun b o e => Heap.get?_push_of_some _ (Heap.get?_push_of_some _ e)
  have hget : ((hp.push (PySem.W.kdv_tup us)).push (PySem.HandSPX.excO C hp.objs.size)).get? (hp.objs.size + 1) = some (PySem.HandSPX.excO C hp.objs.size) := by heap_get
  have I2 : Inv X pins σ (upd H1 (hp.objs.size + 1) (exo (hp.objs.size + 1) C none)) ⟨(hp.push (PySem.W.kdv_tup us)).push (PySem.HandSPX.excO C hp.objs.size), g, dr, tk, os⟩ :=
    I1.laid (t' := tk) (a := hp.objs.size + 1) (o := exo (hp.objs.size + 1) C none) (h' := (hp.push (PySem.W.kdv_tup us)).push (PySem.HandSPX.excO C hp.objs.size)) kk hsz (exo_ok hget)
  have r2 : Vals (V.ref (hp.objs.size + 1) :: vs) (Value.ref (hp.objs.size + 1) :: us) := .cons rfl r1
  have hl : (Value.ref (hp.objs.size + 1) :: us ++ []).length = ps.length := by
    have e := r2.length
    rw [F1.len _ _ _ _ hq] at e
    rw [List.append_nil]
    exact e.symm
  have b2 := hb _ (Value.ref (hp.objs.size + 1) :: us) I2.kIn hl
  rw [List.append_nil] at b2
  have hus : us.length ≤ sizeLine := by
    rw [← Paired.length r1, sizeLine_eq]
    omega
  refine wpAny_call (PySem.HandSPX.call_own F.excBase_ValueError (fun Y => PySem.HandSPX.refsVE_contains Y bm hbm) (I1.kIn _ _ hC) (PySem.W.looks_findIn I1.kIn iC) (fun self => PySem.W.bind_fn I1.kIn self tI) hus
    (codeAny_mono (F1.run _ X.stack _ _ ⟨Value.ref (hp.objs.size + 1) :: us, []⟩ (Value.ref (hp.objs.size + 1) :: us) _ _ (fun _ _ _ => False) (hr.make C us []) (I2.env0.make C us []) b2 r2 hq) fun r s' hq' => ?_))
  cases r with
  | error er => exact hx pins σ _ _ er s' I2 hq'
  | ok fl =>
    cases fl with
    | ret u =>
      obtain ⟨v, H2, os2, bare2, un2, hok2, rv, ev, d, fs, ea, ed, hd1, q2⟩ := hq'
      subst ev
      obtain ⟨h2, g2, d2, t2, os'⟩ := s'
      obtain ⟨t0, G, J, kG, ge, hoe, na⟩ := mk_end0 (d2 := d2) (t2 := t2) I1 hsz kk un2 hok2 os2 bare2 ea ed hd1
      refine ⟨rv, hp.objs.size + 1, _, _, ⟨G, g2, d2, t2, os'⟩, _, .ref C, some d, rfl, J, kG, ge, hoe, ⟨rfl, rfl, fun vs hv => ?_⟩, rfl, rfl, na, rfl, bare2, raises_own T.exC T.tyC, q2⟩
      cases hv
      rfl
    | next => exact False.elim hq'
    | brk => exact False.elim hq'
    | cont => exact False.elim hq'
/-- what is known of an own class that is raised -/
def RaiseAt (C : CT) (X : Cx) (x : Str) (c m : Nat) : Prop := m = (C.fld c).length ∧ ∃ k fI fd ps, X.mg x = some (.ref (C.cls c)) ∧ OexC X.K (C.cls c) ∧ PySem.W.findIn X.K (.ref (C.cls c)) "__init__" = some (some (.ref fI)) ∧ PySem.W.typeIn X.K (.ref fI) = some (.type "function") ∧
  FnOk X.prog X.w X.K X.mg X.base (L2N.CX X.prog X.w) k fI fd ps (initSp (C.cls c) (C.fld c)) ∧ Room (k + 1) X.A ∧ Binds X.K fd ps [] ∧ (C.fld c).length ≤ 1000 ∧ ∀ ws, ws.length = (C.fld c).length → FldsOf C c ((C.fld c).zip ws).reverse ws
/-- a def that is called within an except suite -/
def HFn (C : CT) (Γ : Nat → VSp) (X : Cx) (x : Str) (k : Nat) : Prop := ∃ lv f fd ps, FnX X.prog X.w X.K X.mg X.base (L2N.CX X.prog X.w) lv f fd ps (fun p => lift C (HotP C p) (Γ k)) ∧ Room lv X.A ∧ X.mg x = some (.ref f) ∧ PySem.W.keepIn X.K (.ref f) = true ∧ Binds X.K fd ps []
structure CtxS (C : CT) (Γ : Nat → VSp) (X : Cx) (cc : CC) (W : WP) : Prop extends Ctx C Γ X cc W where
  stk : X.stack = X.env :: X.outer
  frm : X.env.frame = some X.env.locals
  rs : cc.hot = false → ∀ x c m, cc.cons2.lookup x = some (c, m) → RaiseAt C X x c m
  hf : cc.hot = false → ∀ x k, cc.hfns.lookup x = some k → HFn C Γ X x k
section
variable {C : CT} {Γ : Nat → VSp} {X : Cx} {cc : CC} {W : WP}
theorem passN {X : Cx} : Passes (L2N.CX X.prog X.w) X (fun _ _ _ => False) := fun _ _ _ _ _ _ _ h => by
  obtain ⟨_, _, _, _, _, _, _, _, _, _, _, _, w⟩ := h
  exact w.elim
theorem k_rse (cx : CtxS C Γ X cc W) (hcold : cc.hot = false) {f : Expr → VE} (h : ∀ e, PE X e (tE C Γ W (f e))) {x : Str} {c m : Nat} {e : Expr} {es : List Expr} {p pos pos2 : Pos} (hg : cc.gl x = true) (hc : cc.cons2.lookup x = some (c, m)) (hs : noStars (e :: es) = true) :
    PS X (.Raise (some (.Call (.Name x p) (e :: es) [] pos)) none pos2) (tS C Γ W (.rse c m (mapE f (e :: es)))) := by
  obtain ⟨hml, k, fI, fd, ps, hm, T, iC, tI, F1, hr, hb, hlen, hfo⟩ := cx.rs hcold x c m hc
  have hs' := hs
  unfold noStars at hs'
  rw [List.all_cons, Bool.and_eq_true] at hs'
  refine ps_imp (L2N.ps_raise (cx.cold hcold).1 cx.tk (pmk_oexN T iC tI F1 hr hb passN (cx.glob hg) hm (s_args h hs) (okN_ok (CC.gl_okN hg)).1 (star_cons (by simpa using hs'.1)) (by rw [back_any]; exact star_plain hs'.2))) ?_
  rintro D σ H ⟨S, F0, H0, F, ρ, Dv, E, O, hw, hx, g⟩
  unfold wS at hw
  refine ⟨S, F0, H0, F, ρ, _, E, O, hw, hx, fun rs ρ1 vs F1 H1 O1 t1 q1 l1 hk => ?_⟩
  obtain ⟨lv, hk⟩ := lvs_iff.mp hk
  obtain ⟨hE, hl⟩ := hk
  rw [hml] at hl
  obtain ⟨F2, O2, t2, r2⟩ := freezes O1 q1 lv
  have hvl : vs.length = (C.fld c).length := by rw [r2.len, List.length_map, hl]
  refine ⟨by rw [hvl]; exact hlen, fun a ha => ?_⟩
  rw [List.append_nil]
  refine ⟨a, vs, rfl, hvl, upd_same, fun dx H' hd hda e1 e2 e3 => ⟨rfl, dx, _, e1, e2, ?_, ?_⟩⟩
  · rw [upd_ne hda] at hd; exact hd
  · have hd' : H1 dx = none := by rw [upd_ne hda] at hd; exact hd
    have eH : upd (del H' a) dx (.xd ((C.fld c).zip vs).reverse) = upd H1 dx (.xd ((C.fld c).zip vs).reverse) := by
      funext b
      by_cases hb1 : b = dx
      · subst hb1; rw [upd_same, upd_same]
      · rw [upd_ne hb1, upd_ne hb1]
        by_cases hb2 : b = a
        · subst hb2; rw [del_same, ha]
        · rw [del_ne hb2, e3 b hb2 hb1, upd_ne hb2]
    show W.w (.ref (C.cls c)) (some dx) σ (upd (del H' a) dx (.xd ((C.fld c).zip vs).reverse))
    rw [eH]
    have O3 := O2.newF hd' (.xd ((C.fld c).zip vs).reverse)
    exact hx.2 ⟨c, rs.map R.d⟩ _ _ _ σ _ _ O3 ⟨rfl, dx, _, vs, rfl, upd_same, hfo vs hvl, r2.mono (Sub.upd (O2.new hd').2.2)⟩ hE

/-! ### try -/
abbrev SG.wx (S : SG) (y : Option (Addr × Nat × Addr)) : SG := { S with x := y }
section
variable {S : SG} {y : Option (Addr × Nat × Addr)} {F0 H0 F H F' H' : Hp} {σ : L2.St} {ρ : En}
mutual
theorem Rep.sx (h : S.x = none) : ∀ (d : D) (v : V), Rep C S F d v → Rep C (S.wx y) F d v
  | .non, _, q => by unfold Rep at q ⊢; exact q
  | .bl _, _, q => by unfold Rep at q ⊢; exact q
  | .int _, _, q => by unfold Rep at q ⊢; exact q
  | .str _, _, q => by unfold Rep at q ⊢; exact q
  | .tok, _, q => by unfold Rep at q ⊢; exact q
  | .tup ds, _, q => by
    unfold Rep at q ⊢
    obtain ⟨a, vs, e, s, r⟩ := q
    exact ⟨a, vs, e, s, Reps.sx h ds vs r⟩
  | .lst ds, _, q => by
    unfold Rep at q ⊢
    obtain ⟨a, vs, e, s, r⟩ := q
    exact ⟨a, vs, e, s, Reps.sx h ds vs r⟩
  | .dicK ks ds, _, q => by
    unfold Rep at q ⊢
    obtain ⟨a, vs, e, s, l, r⟩ := q
    exact ⟨a, vs, e, s, l, Reps.sx h ds vs r⟩
  | .dicT ks ds, _, q => by
    unfold Rep at q ⊢
    obtain ⟨a, vs, e, s, l, r⟩ := q
    exact ⟨a, vs, e, s, l, Reps.sx h ds vs r⟩
  | .obj c fs, _, q => by
    unfold Rep at q ⊢
    obtain ⟨a, dx, vs, e, s, l, r⟩ := q
    exact ⟨a, dx, vs, e, s, l, Reps.sx h fs vs r⟩
  | .exn c fs, _, q => by
    unfold Rep at q
    obtain ⟨a, dx, fl, vs, e, _⟩ := q
    rw [h] at e
    cases e
theorem Reps.sx (h : S.x = none) : ∀ (ds : List D) (vs : List V), Reps C S F ds vs → Reps C (S.wx y) F ds vs
  | [], _, q => by unfold Reps at q ⊢; exact q
  | d :: ds, _, q => by
    unfold Reps at q ⊢
    obtain ⟨v, r, e, h1, h2⟩ := q
    exact ⟨v, r, e, Rep.sx h d v h1, Reps.sx h ds r h2⟩
end
mutual
theorem Rep.out : ∀ (d : D) (v : V), d.noX = true → Rep C (S.wx y) F d v → Rep C S F d v
  | .non, _, _, q => by unfold Rep at q ⊢; exact q
  | .bl _, _, _, q => by unfold Rep at q ⊢; exact q
  | .int _, _, _, q => by unfold Rep at q ⊢; exact q
  | .str _, _, _, q => by unfold Rep at q ⊢; exact q
  | .tok, _, _, q => by unfold Rep at q ⊢; exact q
  | .tup ds, _, h, q => by
    unfold D.noX at h
    unfold Rep at q ⊢
    obtain ⟨a, vs, e, s, r⟩ := q
    exact ⟨a, vs, e, s, Reps.out ds vs h r⟩
  | .lst ds, _, h, q => by
    unfold D.noX at h
    unfold Rep at q ⊢
    obtain ⟨a, vs, e, s, r⟩ := q
    exact ⟨a, vs, e, s, Reps.out ds vs h r⟩
  | .dicK ks ds, _, h, q => by
    unfold D.noX at h
    unfold Rep at q ⊢
    obtain ⟨a, vs, e, s, l, r⟩ := q
    exact ⟨a, vs, e, s, l, Reps.out ds vs h r⟩
  | .dicT ks ds, _, h, q => by
    unfold D.noX at h
    unfold Rep at q ⊢
    obtain ⟨a, vs, e, s, l, r⟩ := q
    exact ⟨a, vs, e, s, l, Reps.out ds vs h r⟩
  | .obj c fs, _, h, q => by
    unfold D.noX at h
    unfold Rep at q ⊢
    obtain ⟨a, dx, vs, e, s, l, r⟩ := q
    exact ⟨a, dx, vs, e, s, l, Reps.out fs vs h r⟩
  | .exn c fs, _, h, q => by unfold D.noX at h; cases h
theorem Reps.out : ∀ (ds : List D) (vs : List V), D.noXs ds = true → Reps C (S.wx y) F ds vs → Reps C S F ds vs
  | [], _, _, q => by unfold Reps at q ⊢; exact q
  | d :: ds, _, h, q => by
    unfold D.noXs at h
    rw [Bool.and_eq_true] at h
    unfold Reps at q ⊢
    obtain ⟨v, r, e, h1, h2⟩ := q
    exact ⟨v, r, e, Rep.out d v h.1 h1, Reps.out ds r h.2 h2⟩
end
theorem Own.sx {d : D} {a : Addr} (h : S.x = none) (o : Own C S H0 F H d a) : Own C (S.wx y) H0 F H d a := by
  obtain ⟨h0, f, hp, o', z, k⟩ := o
  refine ⟨h0, f, hp, o', z, ?_⟩
  cases d <;> first
    | exact k.elim
    | (obtain ⟨vs, e, r⟩ := k; exact ⟨vs, e, Reps.sx h _ _ r⟩)
    | (obtain ⟨vs, e, l, r⟩ := k; exact ⟨vs, e, l, Reps.sx h _ _ r⟩)
theorem Own.out {d : D} {a : Addr} (h : d.noX = true) (o : Own C (S.wx y) H0 F H d a) : Own C S H0 F H d a := by
  obtain ⟨h0, f, hp, o', z, k⟩ := o
  refine ⟨h0, f, hp, o', z, ?_⟩
  cases d <;> first
    | exact k.elim
    | (obtain ⟨vs, e, r⟩ := k; unfold D.noX at h; exact ⟨vs, e, Reps.out _ _ h r⟩)
    | (obtain ⟨vs, e, l, r⟩ := k; unfold D.noX at h; exact ⟨vs, e, l, Reps.out _ _ h r⟩)
theorem Sto.sx (s : Sto S F H) : Sto (S.wx y) F H := ⟨s.cells, s.free, s.len, s.st⟩
theorem Sto.out (s : Sto (S.wx y) F H) : Sto S F H := ⟨s.cells, s.free, s.len, s.st⟩
theorem OK.sx (h : S.x = none) (O : OK C S F0 H0 F H σ ρ) : OK C (S.wx y) F0 H0 F H σ ρ where
  sub := O.sub
  fr := O.fr
  p0 := O.p0
  f0 := O.f0
  fn := O.fn
  len := O.len
  val := fun i d e => by
    obtain ⟨v, e1, r⟩ := O.val i d e
    exact ⟨v, e1, Rep.sx h _ _ r⟩
  own := fun i d e => by
    obtain ⟨a, e1, o⟩ := O.own i d e
    exact ⟨a, e1, o.sx h⟩
  dis := O.dis
  sto := O.sto.sx
theorem OK.out (h : noX ρ) (O : OK C (S.wx y) F0 H0 F H σ ρ) : OK C S F0 H0 F H σ ρ where
  sub := O.sub
  fr := O.fr
  p0 := O.p0
  f0 := O.f0
  fn := O.fn
  len := O.len
  val := fun i d e => by
    obtain ⟨v, e1, r⟩ := O.val i d e
    exact ⟨v, e1, Rep.out _ _ (h _ (List.mem_of_getElem? e)) r⟩
  own := fun i d e => by
    obtain ⟨a, e1, o⟩ := O.own i d e
    exact ⟨a, e1, o.out (h _ (List.mem_of_getElem? e))⟩
  dis := O.dis
  sto := O.sto.out
end
theorem Ctx.kindOf (cx : Ctx C Γ X cc W) {x : Str} {k : NameKind} (h : cc.kind x = some k) : X.env.kindOf x = some k := by
  unfold Env.kindOf
  rw [cx.sc]
  exact h
theorem Ctx.trC (cx : CtxS C Γ X cc W) (pn : List (Addr × Obj)) (xe : Value → Shared → Prop) (W' : WP) (hcold : cc.hot = false) (hw : W'.ok = Cold) (tk : L2N.Takes (X.tr pn xe) W'.w) (po : PassesOwn (model X.prog X.w) X.A X.env xe) : CtxS C Γ (X.tr pn xe) cc W' where
  hN := cx.hN
  sc := cx.sc
  fn := cx.fn
  nd := cx.nd
  K := cx.K
  cold := fun h => ⟨(cx.cold h).1, hw⟩
  hot := fun h => by rw [hcold] at h; cases h
  fl := cx.fl
  ix := cx.ix
  un := cx.un
  tk := tk
  po := po
  fns := cx.fns
  cons := cx.cons
  blt := cx.blt
  mks := cx.mks
  ofl := cx.ofl
  mtd := cx.mtd
  itf := cx.itf
  stk := cx.stk
  frm := cx.frm
  rs := cx.rs
  hf := cx.hf
theorem Ctx.suiteC (cx : CtxS C Γ X cc W) (hcold : cc.hot = false) {a : Addr} {oe : Obj} {cls : Value} {d : Option Addr} (pn : List (Addr × Obj)) (zn : L2N.Zn cls d oe) (hf : ∃ vs, oe.data = .fields vs) :
    CtxS C Γ (X.suite a ((a, oe) :: pn)) cc.heat ⟨fun _ _ _ _ => False, HotA C a cls d⟩ where
  hN := cx.hN
  sc := cx.sc
  fn := cx.fn
  nd := cx.nd
  K := cx.K
  cold := fun h => absurd (show true = false from h) (by decide)
  hot := fun _ => ⟨(a, oe), cls, d, List.mem_cons_self, zn, hf, rfl, rfl⟩
  fl := cx.fl
  ix := cx.ix
  un := cx.un
  tk := takesN0
  po := PassesOwn.never
  fns := fun x k h => by
    obtain ⟨lv, f, fd, ps, F, hr, r⟩ := cx.hf hcold x k h
    exact ⟨lv, f, fd, ps, (fun z => absurd (show true = false from z) (by decide)), fun _ => ⟨F, hr.dp, hr.un⟩, r⟩
  cons := cx.cons
  blt := cx.blt
  mks := fun h => absurd (show true = false from h) (by decide)
  ofl := cx.ofl
  mtd := fun h => absurd (show true = false from h) (by decide)
  itf := fun h => absurd (show true = false from h) (by decide)
  stk := cx.stk
  frm := cx.frm
  rs := fun h => absurd (show true = false from h) (by decide)
  hf := fun h => absurd (show true = false from h) (by decide)
theorem k_tryA (cx : CtxS C Γ X cc W) (hcold : cc.hot = false) {x y : Str} {np pos pos' : Pos} {body su : List Stmt} {b : Stmt} {vb vs : VSs} {i : Nat} {tab : List (Nat × Bool)} (hg : cc.gl x = true) (hk : cc.kind y = some .local) (hi : ixOf y cc.N = some i) (ht : cc.isx.lookup x = some tab)
    (hb : ∀ {X : Cx} {W : WP}, CtxS C Γ X cc W → PSs X body (tSs C Γ W vb)) (hs : ∀ {X : Cx} {W : WP}, CtxS C Γ X cc.heat W → PSs X (b :: su) (tSs C Γ W vs)) :
    PS X (.Try body [.ExceptHandler (some (.Name x np)) (some y) (b :: su) pos'] [] [] pos) (tS C Γ W (.tryA i tab vb vs)) := by
  obtain ⟨v, cv, hrel, hmean, htab⟩ := cx.ix x tab ht
  refine ps_imp (L2N.ps_try_as (X := X) (c := cv) (i := i) (Wout := W.w) (tb := fun w => tSs C Γ ⟨w, Cold⟩ vb) (ts := fun a cls d => tSs C Γ ⟨fun _ _ _ _ => False, HotA C a cls d⟩ vs) cx.stk cx.frm cx.nd (cx.slot hi) (cx.kindOf hk) ⟨cx.glob hg, (okN_ok (CC.gl_okN hg)).1, hmean⟩ cx.tk
    (fun w pn xe tk po => hb (Ctx.trC cx pn xe ⟨w, Cold⟩ hcold rfl tk po)) (fun a oe cls d pn zn hf => hs (Ctx.suiteC cx hcold pn zn hf))) ?_
  rintro D σ H ⟨S, F0, H0, F, ρ, Dv, E, O, hw, hx, g⟩
  have hS : S.x = none := by
    have := hx.1
    rw [(cx.cold hcold).2] at this
    exact this
  unfold wS at hw
  refine ⟨S, F0, H0, F, ρ, Dv, _, O, hw, ⟨hS, fun e ρ1 F1 H1 σ1 cls dx O1 ea hE => ?_⟩, g⟩
  obtain ⟨z, hz, hyes, hno⟩ := hE
  obtain ⟨T, k1, k2⟩ := htab _ _ hz
  obtain ⟨e1, d, fl, us, e2, e3, e4, e5⟩ := id ea
  refine ⟨z, by rw [e1]; exact k2, fun hz a ha => ?_, fun hz => hx.2 e ρ1 F1 H1 σ1 cls dx O1 ea (hno hz)⟩
  have O2 : OK C (S.wx (some (a, e.cls, d))) F0 H0 F1 H1 σ1 ρ1 := O1.sx hS
  have O3 := O2.setVal i (d := .exn e.cls e.fs) (v := .ref a) (by
    unfold Rep
    exact ⟨a, d, fl, us, rfl, rfl, e3, e4, Reps.sx hS _ _ e5⟩)
  refine ⟨S.wx (some (a, e.cls, d)), F0, H0, F1, _, _, _, O3, hyes hz, ⟨⟨e.cls, d, rfl, e1, e2⟩, fun _ _ _ _ _ _ _ _ _ z => z.elim⟩, ⟨?_, ?_, ?_, ?_⟩⟩
  · rintro σ' ρ' F' H' O' ⟨n1, n2⟩
    exact g.nx _ _ _ _ ((O'.none1 i).out n1) n2
  · rintro σ' ρ' F' H' O' ⟨n1, n2⟩
    exact g.bk _ _ _ _ ((O'.none1 i).out n1) n2
  · rintro σ' ρ' F' H' O' ⟨n1, n2⟩
    exact g.ct _ _ _ _ ((O'.none1 i).out n1) n2
  · rintro o d' v' F' H' e' r' ⟨n1, n2⟩
    refine g.rt o d' v' F' H' ⟨e'.f, e'.sub, e'.fr, e'.fn, e'.sto.out⟩ ?_ n2
    unfold Res at r' ⊢
    cases o with
    | true =>
      obtain ⟨b', q1, q2⟩ := r'
      exact ⟨b', q1, q2.out n1⟩
    | false => exact Rep.out _ _ n1 r'
end
end VL
set_option maxHeartbeats 4000000
/-! VLm: every statement; defs. -/
namespace VL
open PySem PySem.Spec PyProof.Rows L2
section
variable {C : CT} {Γ : Nat → VSp}
theorem swaps_name {elt : Expr} {gens : List Comprehension} {scope : Scope} {pos : Pos} {t : Str} {p : Pos} {l : Nat} {env : PySem.Env} :
    ∃ b : Bool, swapsWith (.ListComp elt gens scope pos) (some (.Name t p)) l env = pure b ∧ (b = true → env.scope.names.lookup t = some .local) := by
  refine ⟨_, rfl, fun h => ?_⟩
  simp only [Bool.and_eq_true] at h
  exact eq_of_beq h.1.1.2
theorem k_asgLc {X : Cx} {cc : CC} {W : WP} (cx : CtxS C Γ X cc W) {n i : Nat} {x : Str} {p pos : Pos} {e : Expr} (hs : X.N[i]? = some x) (hl : Loc X.env.scope x) (hf : X.fn x = true ∨ X.env.scope.names.lookup x = some .local) (hE : PE X e (tE C Γ W (cE n cc e))) (ih : ∀ m, n = m + 1 → AllE C Γ m)
    (hc : ∃ a b c d, e = .ListComp a b c d) : PS X (.Assign [.Name x p] e pos) (tS C Γ W (.asg (.nm i) (cE n cc e))) := by
  obtain ⟨elt, gens, scope, cpos, rfl⟩ := hc
  obtain ⟨b, hsw, hb⟩ := swaps_name (elt := elt) (gens := gens) (scope := scope) (pos := cpos) (t := x) (p := p) (l := pos.line) (env := X.env)
  cases b with
  | false => exact k_asg (tg := .Name x p) (e := .Name x p) (ps_set cx.nd hs hl hE hsw hf) gName_imp
  | true =>
    have bad : ∀ {s : Stmt}, PS X s (tS C Γ W (.asg (.nm i) .bad)) := ⟨fun pins st σ H D I q => by
      obtain ⟨S, F0, H0, F, ρ, Dv, E, O, hw, hx, gg⟩ := q
      unfold wS wE at hw
      exact hw.elim⟩
    cases n with
    | zero =>
      have e0 : cE 0 cc (.ListComp elt gens scope cpos) = .bad := by unfold cE; rfl
      rw [e0]
      exact bad
    | succ m =>
      unfold cE
      split <;> rename_i he <;> first | (cases he; done) | skip
      · cases he
        split
        · exact k_asg (tg := .Name x p) (e := .Name x p) ((comp_of (ih m rfl) cx.toCtx ‹_›).2 i x p pos hs (hb rfl) hsw) gName_imp
        · exact bad
      · exact bad
theorem swaps_plain {e : Expr} {t : Option Expr} {l : Nat} {env : PySem.Env} (h1 : ∀ a b c d, e ≠ .ListComp a b c d) (h2 : ∀ a b c d, e ≠ .SetComp a b c d) (h3 : ∀ a b c d f, e ≠ .DictComp a b c d f) : swapsWith e t l env = pure false := by
  cases e <;> first | rfl | exact absurd rfl (h1 _ _ _ _) | exact absurd rfl (h2 _ _ _ _) | exact absurd rfl (h3 _ _ _ _ _)
theorem swaps_tup {e : Expr} {gs : List Expr} {k : Nat} {p : Pos} {l : Nat} {env : PySem.Env} : swapsWith e (some (.Tuple gs k p)) l env = pure false := by
  cases e <;> rfl
theorem stores_tup {e : Expr} {gs : List Expr} {k : Nat} {p : Pos} {env : PySem.Env} (h : ∀ a b c, e ≠ .Tuple a b c) : swappedStores [.Tuple gs k p] e env = pure none := by
  cases e <;> first | rfl | exact absurd rfl (h _ _ _)
def AllS (C : CT) (Γ : Nat → VSp) (n : Nat) : Prop := ∀ (X : Cx) (cc : CC) (W : WP), CtxS C Γ X cc W → ∀ s, PS X s (tS C Γ W (cS n cc s))
theorem name_slot {X : Cx} {cc : CC} {W : WP} (cx : Ctx C Γ X cc W) {n : Nat} {x : Str} {p : Pos} : cG n cc (.Name x p) = .bad ∨ ∃ i, cG n cc (.Name x p) = .nm i ∧ X.N[i]? = some x ∧ Loc X.env.scope x ∧ (X.fn x = true ∨ X.env.scope.names.lookup x = some .local) := by
  cases n with
  | zero => exact .inl rfl
  | succ n =>
    unfold cG
    split
    · rename_i hp
      split
      · rename_i i hi
        refine .inr ⟨i, rfl, cx.slot hi, ?_⟩
        unfold CC.put CC.kind at hp
        rw [cx.sc, cx.fn]
        split at hp
        · exact ⟨.inl ‹_›, .inr ‹_›⟩
        · exact ⟨.inr ‹_›, .inl hp⟩
        · cases hp
      · exact .inl rfl
    · exact .inl rfl

theorem allS : ∀ n, AllS C Γ n
  | 0 => fun X cc W cx s => by unfold cS; exact ps_bad
  | n + 1 => fun X cc W cx s => by
    have ih := allS n
    have hE : ∀ e, PE X e (tE C Γ W (cE n cc e)) := (allE n).1 cx.toCtx
    have hC : ∀ e, PT X e (tCo C Γ W (cC n cc e)) := (allE n).2.1 cx.toCtx
    have hI : ∀ g e, PI X g e (tI C Γ W (cI n cc g e)) := (allE n).2.2 cx.toCtx
    unfold cS
    split
    · exact k_pass
    · exact k_brk
    · exact k_cnt
    · exact k_retN
    · exact k_ret (hE _)
    · split
      · exact k_doc
      · exact ps_bad
      · exact ps_bad
      · exact ps_bad
      · exact ps_bad
      · rename_i e pos h1 h2 h3 h4 h5
        exact k_ex (swaps_plain (fun a b c d z => h3 _ _ _ _ z) (fun a b c d z => h4 _ _ _ _ z) (fun a b c d f z => h5 _ _ _ _ _ z)) (hE _)
    · split
      · exact ps_bad
      · exact ps_bad
      · exact ps_bad
      · rename_i e pos g' e' gs k p h1 h2 h3
        exact k_asg (e := e) (tg := e) (ps_asg (hE _) (s_g cx.toCtx n _) (swaps_tup (e := e) (gs := gs) (k := k) (p := p) (l := pos.line) (env := X.env)) (stores_tup fun a b c z => h2 _ _ _ z)) fun v σ H Q q => q
      · rename_i e pos g' e' x p
        split
        · rename_i i hi
          rcases name_slot cx.toCtx (n := n) (x := x) (p := p) with hb | ⟨i', e1, hs, hl, hf⟩
          · rw [hb] at hi; cases hi
          · rw [e1] at hi
            cases hi
            by_cases hc : ∃ a b c d, e = .ListComp a b c d
            · exact k_asgLc cx hs hl hf (hE _) (fun m _ => allE m) hc
            · by_cases hc2 : (∃ a b c d, e = .SetComp a b c d) ∨ ∃ a b c d f, e = .DictComp a b c d f
              · have eb : cE n cc e = .bad := by
                  rcases hc2 with ⟨_, _, _, _, rfl⟩ | ⟨_, _, _, _, _, rfl⟩ <;> (cases n <;> (unfold cE; rfl))
                rw [eb]
                exact ⟨fun pins st σ H D I q => by
                  obtain ⟨S, F0, H0, F, ρ, Dv, E, O, hw, hx, gg⟩ := q
                  unfold wS wE at hw
                  exact hw.elim⟩
              · exact k_asg (tg := .Name x p) (e := .Name x p) (ps_set cx.nd hs hl (hE _) (swaps_plain (fun a b c d z => hc ⟨a, b, c, d, z⟩) (fun a b c d z => hc2 (.inl ⟨a, b, c, d, z⟩)) (fun a b c d f z => hc2 (.inr ⟨a, b, c, d, f, z⟩))) hf) gName_imp
        · exact ps_bad
      · split
        · exact ps_bad
        · rename_i h
          simp only [Bool.or_eq_true, not_or, Bool.not_eq_true] at h
          exact k_setix cx.toCtx h.1 (hE _) (hE _) (hE _)
      · exact ps_bad
    · split
      · rename_i h
        rw [Bool.and_eq_true] at h
        split
        · exact k_aug cx.toCtx h.1 h.2 ‹_› (hE _)
        · exact ps_bad
      · exact ps_bad
    · split
      · exact ps_bad
      · rename_i h
        exact k_augix cx.toCtx (by simpa using h) (hE _) (hE _) (hE _)
    · exact k_if (hC _) (k_list (fun s => ih _ _ _ cx s) _) (k_list (fun s => ih _ _ _ cx s) _)
    · split
      · exact ps_bad
      · rename_i h
        simp only [Bool.or_eq_true, not_or, Bool.not_eq_true] at h
        exact k_for cx.toCtx h.2 h.1 (hI _ _) (s_g cx.toCtx n _) (k_list (fun s => ih _ _ _ cx s) _)
    · split
      · exact ps_bad
      · rename_i h
        simp only [Bool.or_eq_true, not_or, Bool.not_eq_true, Bool.not_eq_true', Bool.not_eq_false] at h
        split
        · exact k_rse cx h.1.1 hE h.1.2 ‹_› h.2
        · exact ps_bad
    · split
      · exact ps_bad
      · rename_i h
        simp only [Bool.or_eq_true, not_or, Bool.not_eq_true, Bool.not_eq_true', Bool.not_eq_false, decide_eq_false_iff_not, Decidable.not_not] at h
        split
        · exact k_tryA cx h.1.1 h.1.2 h.2 ‹_› ‹_› (fun cx => k_list (fun s => ih _ _ _ cx s) _) (fun cx => k_list (fun s => ih _ _ _ cx s) _)
        · exact ps_bad
    · exact k_whl cx.toCtx (hC _) (k_list (fun s => ih _ _ _ cx s) _)
    · exact ps_bad
end
end VL
set_option maxHeartbeats 4000000
/-! VLn: defs keep their promises. -/
namespace VL
open PySem PySem.Spec PyProof.Rows L2
def startV (N : List Str) (ds : List D) : En := ds.map .val ++ List.replicate (N.length - ds.length) .un
/-- a def with its promise, of the level lv -/
def Fct (C : CT) (Γ : Nat → VSp) (P : Program) (w : World) (K : PySem.W.Frag) (mg : Str → Option Value) (base : Heap) (x : Str) (k lv : Nat) : Prop := ∃ f fd ps, FnOk P w K mg base (L2N.CX P w) lv f fd ps (lift C Cold (Γ k)) ∧ mg x = some (.ref f) ∧ PySem.W.keepIn K (.ref f) = true ∧ Binds K fd ps []
/-- .. called within an except suite -/
def FctX (C : CT) (Γ : Nat → VSp) (P : Program) (w : World) (K : PySem.W.Frag) (mg : Str → Option Value) (base : Heap) (x : Str) (k lv : Nat) : Prop := ∃ f fd ps, FnX P w K mg base (L2N.CX P w) lv f fd ps (fun p => lift C (HotP C p) (Γ k)) ∧ mg x = some (.ref f) ∧ PySem.W.keepIn K (.ref f) = true ∧ Binds K fd ps []
def ConV (C : CT) (mg : Str → Option Value) (x : Str) (d : D) : Prop := ∃ v u, mg x = some u ∧ RelV v u ∧ ∀ S F, Rep C S F d v
def IsV (C : CT) (mg : Str → Option Value) (t : Str) (tab : List (Nat × Bool)) : Prop := ∃ (v : V) (cv : Value), (∀ u, RelV v u ↔ u = cv) ∧ (mg t = some cv ∨ (mg t = none ∧ bootBuiltins t = some cv ∧ t ≠ ("__name__" : Str))) ∧
  ∀ c b, tab.lookup c = some b → ExcC C.K (C.cls c) ∧ PySem.W.kitOne C.K (.ref (C.cls c)) cv = some b ∧ PySem.W.exmOne C.K (.ref (C.cls c)) cv = some b
def RaiseV (C : CT) (P : Program) (w : World) (mg : Str → Option Value) (base : Heap) (x : Str) (c m lv : Nat) : Prop := m = (C.fld c).length ∧ ∃ li fI fd ps, li + 1 ≤ lv ∧ mg x = some (.ref (C.cls c)) ∧ OexC C.K (C.cls c) ∧ PySem.W.findIn C.K (.ref (C.cls c)) "__init__" = some (some (.ref fI)) ∧ PySem.W.typeIn C.K (.ref fI) = some (.type "function") ∧
  FnOk P w C.K mg base (L2N.CX P w) li fI fd ps (initSp (C.cls c) (C.fld c)) ∧ Binds C.K fd ps [] ∧ (C.fld c).length ≤ 1000 ∧ ∀ ws, ws.length = (C.fld c).length → FldsOf C c ((C.fld c).zip ws).reverse ws
/-- an own class that is made by a call -/
def MkV (C : CT) (Γ : Nat → VSp) (P : Program) (w : World) (mg : Str → Option Value) (base : Heap) (x : Str) (k lv : Nat) : Prop := ∃ c li f fd ps, FnOk P w C.K mg base (L2N.CX P w) li f fd ps (liftO C c (Γ k)) ∧ li + 1 ≤ lv ∧ Mk C.K (C.cls c) f ∧ mg x = some (.ref (C.cls c)) ∧ Binds C.K fd ps [] ∧ ∀ x o d, (Γ k).post x o d → o = false ∧ ∃ fs, d = .obj c fs
/-- a method of an own class -/
def MtdV (C : CT) (Γ : Nat → VSp) (P : Program) (w : World) (mg : Str → Option Value) (base : Heap) (m : Str) (c k lv : Nat) : Prop := ∃ li f fd ps, FnOk P w C.K mg base (L2N.CX P w) li f fd ps (lift C Cold (Γ k)) ∧ Meth C.K (C.cls c) m f ∧ Cls C.K (C.cls c) ∧ Binds C.K fd ps [] ∧ (∀ vs : List V, ((C.fld c).zip vs).lookup m = none) ∧ PySem.W.selfFirst C.K (C.cls c) = true ∧ PySem.W.notFirst C.K (C.cls c) (.ref (C.cls c)) = true ∧ PySem.W.fnIn C.K f = true ∧ li + 4 ≤ lv
/-- the class with an __iter__ -/
def IterV (C : CT) (Γ : Nat → VSp) (P : Program) (w : World) (mg : Str → Option Value) (base : Heap) (c i lv : Nat) : Prop := ∃ li f fd ps, FnS P w C.K mg base (L2N.CX P w) li f fd ps (spIter C C.K c i) ∧ li + 2 ≤ lv ∧ PySem.W.findIn C.K (.ref (C.cls c)) "__iter__" = some (some (.ref f)) ∧ PySem.W.isFn C.K (.ref f) = true ∧ Binds C.K fd ps [] ∧
  PySem.W.findIn C.K (.ref (C.cls c)) "__length_hint__" = some none ∧ (PySem.W.findIn C.K (.ref (C.cls c)) "__len__" = some none ∨ ∃ g gd qs lw, FnOk P w C.K mg base (L2N.CX P w) lw g gd qs (spLen C C.K c i) ∧ lw + 4 ≤ lv ∧ PySem.W.findIn C.K (.ref (C.cls c)) "__len__" = some (some (.ref g)) ∧ PySem.W.isFn C.K (.ref g) = true ∧ Binds C.K gd qs [])
/-- what is known of the module, for a def whose callees are of the level lv -/
structure Mod (C : CT) (Γ : Nat → VSp) (P : Program) (w : World) (mg : Str → Option Value) (base : Heap) (cc : CC) (lv : Nat) : Prop where
  fns : cc.hot = false → ∀ x k, cc.fns.lookup x = some k → Fct C Γ P w C.K mg base x k lv
  fnsX : cc.hot = true → ∀ x k, cc.fns.lookup x = some k → FctX C Γ P w C.K mg base x k lv
  cons : ∀ x d, cc.cons.lookup x = some d → ConV C mg x d
  blt : ∀ x ∈ cc.blt, mg x = none
  fl : ∀ f t c i, cc.flds.lookup f = some t → t.lookup c = some i → (C.fld c)[i]? = some f ∧ XfC C.K (C.cls c) ∧ PySem.W.findIn C.K (.ref (C.cls c)) f = some none
  ix : ∀ t tab, cc.isx.lookup t = some tab → IsV C mg t tab
  rs : cc.hot = false → ∀ x c m, cc.cons2.lookup x = some (c, m) → RaiseV C P w mg base x c m lv
  hf : cc.hot = false → ∀ x k, cc.hfns.lookup x = some k → FctX C Γ P w C.K mg base x k lv
  mks : cc.hot = false → ∀ x k, cc.mks.lookup x = some k → MkV C Γ P w mg base x k lv
  ofl : ∀ f c i, cc.ofl.lookup f = some (c, i) → FldO C C.K f c i
  mtd : cc.hot = false → ∀ m c k, cc.mtd.lookup m = some (c, k) → MtdV C Γ P w mg base m c k lv
  itf : cc.hot = false → ∀ c i, cc.itf = some (c, i) → IterV C Γ P w mg base c i lv
section
variable {C : CT} {Γ : Nat → VSp} {P : Program} {w : World} {mg : Str → Option Value} {base : Heap} {cc : CC} {lv : Nat}
theorem ok_start {S : SG} {F H : Hp} {N : List Str} {ds : List D} {vs : List V} (hs : Sub F H) (st : Sto S F H) (r : Reps C S F ds vs) (hl : vs.length ≤ N.length) : OK C S F H F H (L2.start N vs) (startV N ds) where
  sub := hs
  fr := fun _ _ _ h => h
  p0 := st.has
  f0 := Sub.refl F
  fn := fun _ _ h => .inl h
  len := by
    unfold startV L2.start
    rw [List.length_append, List.length_append, List.length_map, List.length_map, List.length_replicate, List.length_replicate, r.len]
  val := fun i d h => by
    unfold startV at h
    by_cases hi : i < (ds.map Slot.val).length
    · rw [List.getElem?_append_left hi, List.getElem?_map] at h
      cases q : ds[i]? with
      | none => rw [q] at h; cases h
      | some e =>
        rw [q] at h
        cases h
        obtain ⟨v, hv, rv⟩ := r.at q
        refine ⟨v, ?_, rv⟩
        unfold L2.start
        rw [List.getElem?_append_left (by rw [List.length_map, r.len]; rw [List.length_map] at hi; exact hi), List.getElem?_map, hv] <;> rfl
    · rw [List.getElem?_append_right (by omega), List.getElem?_replicate] at h
      split at h <;> cases h
  own := fun i d h => by
    unfold startV at h
    by_cases hi : i < (ds.map Slot.val).length
    · rw [List.getElem?_append_left hi, List.getElem?_map] at h
      cases q : ds[i]? with
      | none => rw [q] at h; cases h
      | some e => rw [q] at h; cases h
    · rw [List.getElem?_append_right (by omega), List.getElem?_replicate] at h
      split at h <;> cases h
  dis := fun i j d e a h => by
    unfold startV at h
    by_cases hi : i < (ds.map Slot.val).length
    · rw [List.getElem?_append_left hi, List.getElem?_map] at h
      cases q : ds[i]? with
      | none => rw [q] at h; cases h
      | some e => rw [q] at h; cases h
    · rw [List.getElem?_append_right (by omega), List.getElem?_replicate] at h
      split at h <;> cases h
  sto := st
/-- a def's context from the module's -/
theorem Mod.cxS (M : Mod C Γ P w mg base cc lv) {ps : List Str} (Sc : FnScope cc.N ps cc.sc) (hfn : cc.fn = fun _ => true) (hcold : cc.hot = false) {qual : Str} {f : Addr} {cdv : Value} {A : Around} {outer : List Env} {s : Shared} {H : Hp} {E : L2.XK} {Wf : WX}
    (hr : Room lv (A.deeper (envOfC qual cc.sc s.heap.objs.size f cdv))) (tk : L2N.Takes (cxOf (L2N.CX P w) P w C.K mg base cc.N qual cc.sc f cdv A outer s H E) Wf) :
    CtxS C Γ (cxOf (L2N.CX P w) P w C.K mg base cc.N qual cc.sc f cdv A outer s H E) cc ⟨Wf, Cold⟩ where
  hN := rfl
  sc := rfl
  fn := by rw [hfn] <;> rfl
  nd := Sc.nd
  K := rfl
  cold := fun _ => ⟨rfl, rfl⟩
  hot := fun z => by rw [hcold] at z; cases z
  fl := M.fl
  ix := M.ix
  un := by have := hr.un; show (A.deeper _).units + 64 < cLine; omega
  tk := tk
  po := passes_of (K := fun e s' => L2N.CX P w outer H s E e s') rfl
  fns := fun z j hz => by
    obtain ⟨g, gd, qs, G, g1, g2, g3⟩ := M.fns hcold z j hz
    exact ⟨lv, g, gd, qs, fun _ => ⟨G, hr⟩, (fun z => by rw [hcold] at z; cases z), g1, g2, g3⟩
  cons := M.cons
  blt := M.blt
  mks := fun _ z j hz => by
    obtain ⟨c, li, g, gd, qs, G, h1, h2, h3, h4, h5⟩ := M.mks hcold z j hz
    exact ⟨c, li, g, gd, qs, G, hr.mono h1, h2, h3, h4, h5⟩
  ofl := M.ofl
  mtd := fun _ z c j hz => by
    obtain ⟨li, g, gd, qs, G, h1, h2, h3, h4, h5, h6, h7, h8⟩ := M.mtd hcold z c j hz
    exact ⟨li, g, gd, qs, ⟨G, hr.mono (by omega)⟩, h1, h2, h3, h4, h5, h6, h7, hr.mono h8⟩
  itf := fun _ c i hz => by
    obtain ⟨li, g, gd, qs, G, h1, h2, h3, h4, h5, h6⟩ := M.itf hcold c i hz
    exact ⟨li, g, gd, qs, G, hr.mono h1, h2, h3, h4, h5, h6.imp_right fun ⟨g', gd', qs', lw, k1, k2, k3⟩ => ⟨g', gd', qs', lw, k1, hr.mono k2, k3⟩⟩
  stk := rfl
  frm := rfl
  rs := fun _ z c m hz => by
    obtain ⟨e1, li, fI, gd, qs, e0, e2, e3, e4, e5, e6, e7, e8, e9⟩ := M.rs hcold z c m hz
    exact ⟨e1, li, fI, gd, qs, e2, e3, e4, e5, e6, hr.mono e0, e7, e8, e9⟩
  hf := fun _ z j hz => by
    obtain ⟨g, gd, qs, G, g1, g2, g3⟩ := M.hf hcold z j hz
    exact ⟨lv, g, gd, qs, G, hr, g1, g2, g3⟩
/-- a def of the text keeps its promise -/
theorem fn_vl {k fuel : Nat} {x qual : Str} {params : Arguments} {body : List Stmt} {f : Addr} {fd : FuncData} {ps : List Str} {ir : VSs} (M : Mod C Γ P w mg base cc lv) (F : FunD C.K x qual params body cc.sc [] [] f fd) (Sc : FnScope cc.N ps cc.sc) (hfn : cc.fn = fun _ => true) (hcold : cc.hot = false)
    (hir : mapS (cS fuel cc) body = ir) (harg : ∀ x : (Γ k).α, ((Γ k).arg x).length = ps.length)
    (hval : ∀ x : (Γ k).α, (Γ k).pre x → wSs Γ ir (startV cc.N ((Γ k).arg x)) { nx := fun _ => (Γ k).post x false .non, rt := (Γ k).post x } fun e _ => (Γ k).exc x e) :
    FnOk P w C.K mg base (L2N.CX P w) (lv + 1) f fd ps (lift C Cold (Γ k)) := by
  have hps : ps.length ≤ cc.N.length := by have := congrArg List.length Sc.pre; rw [List.length_take] at this; omega
  refine F.ok Sc (fun vs H Q E h => ?_) (fun cdv A outer s H vs Q E hr h => ?_)
  · obtain ⟨S, Fz, y, _, _, _, r, _⟩ := h
    rw [r.len, harg]
  · obtain ⟨S, Fz, y, hc, hs, st, r, hp, hq, he⟩ := h
    have cx : CtxS C Γ (cxOf (L2N.CX P w) P w C.K mg base cc.N qual cc.sc f cdv A outer s H E) cc ⟨fun cls d _ H => E cls d H, Cold⟩ := M.cxS Sc hfn hcold hr (L2N.takes_of rfl rfl rfl rfl)
    refine ⟨tSs C Γ ⟨fun cls d _ H => E cls d H, Cold⟩ (mapS (cS fuel cc) body), k_list (fun s => allS fuel _ _ _ cx s) body, ?_⟩
    rw [hir]
    refine ⟨S, Fz, H, Fz, _, _, _, ok_start hs st r (by rw [r.len, harg]; exact hps), hval y hp, ⟨hc, ?_⟩, ?_⟩
    · intro e ρ F1 H1 σ cls d O1 ea hE
      exact he e cls d F1 H1 hE O1.ext ea
    · refine ⟨fun σ ρ F1 H1 O1 hE => hq false .non .non F1 H1 hE O1.ext (rep_non (C := C) (S := S) (F := F1)), fun _ _ _ _ _ z => z.elim, fun _ _ _ _ _ z => z.elim, fun o d v F1 H1 hE hR hp => hq o d v F1 H1 hp hE hR⟩

/-! ### a def called while an exception is handled -/
theorem fn_ofX {CX : CXT} {K : PySem.W.Frag} {k : Nat} {f : Addr} {name qual : Str} {params : Arguments} {body : List Stmt} {scope : Scope} {dV kV doc pm cdv ct oc : Value} {an od : Option Addr}
    {osl : Array (Option Value)} {N ps : List Str} {sp : Addr × Obj → Sp} (lk : K.lookup f = some ⟨oc, od, .func (PySem.W.fnOf name qual params body scope dV kV doc pm an cdv ct), osl⟩) (hcd : PySem.W.codeIn K cdv qual = true) (Sc : FnScope N ps scope)
    (len : ∀ p vs H Q E, sp p vs H Q E → vs.length = ps.length)
    (hbody : ∀ (A : Around) (outer : List Env) (s : Shared) (H : Hp) (vs : List V) (Q : VK) (E : L2.XK) (p : Addr × Obj), L2H.Hot1 A p → L2H.RoomH k (A.deeper (envOfC qual scope s.heap.objs.size f cdv)) → sp p vs H Q E →
      ∃ t, PSs (L2H.cxH CX P w K mg base N qual scope f cdv A outer s H E p) body t ∧ t { nx := fun _ H' => Q .non H', rt := Q } (L2.start N vs) H) :
    FnX P w K mg base CX (k + 1) f (PySem.W.fnOf name qual params body scope dV kV doc pm an cdv ct) ps sp := by
  refine ⟨len, fun A outer s H args us vs Q E p hr hot hpin e0 hb r hsp => ?_⟩
  have hl := len _ _ _ _ _ hsp
  have KX : K.In s.heap := e0.mod.kin.keeps fun b o e => (e0.bs b o e).1
  have lim : s.heap.NoLimit := e0.mod.nolimit.keeps fun b o e => (e0.bs b o e).1
  have hkind : ∀ y ∈ ps.zip us, scope.names.lookup y.1 = some .local ∨ (scope.names.lookup y.1 = some .cell ∧ ((cellsFrom (s.heap.objs.size + 1) scope.names []).lookup y.1).isSome = true) := fun ⟨n, v⟩ hy => by
    rcases Sc.par n (List.of_mem_zip hy).1 with q | q
    · exact .inl q
    · exact .inr ⟨q, PySem.W.cellsFrom_some _ _ _ (.inl q)⟩
  refine codeAny_call_function hr.depth (KX _ _ lk) rfl Sc.co Sc.gen rfl (PySem.W.codeRec_of KX hcd) (hb _ _ _ _ ?_)
  refine wpAny_newFunctionEnv_cells Sc.kind hkind fun env he s1 x => ?_
  subst he
  refine ⟨lim.keeps x.toInCall.keep, codeAny_func ?_⟩
  obtain ⟨t, ht, hq⟩ := hbody A outer s H vs Q E p hot (hr.deeper _) hsp
  have I : Inv (L2H.cxH CX P w K mg base N qual scope f cdv A outer s H E p) [] (L2.start N vs) H s1 := L2H.inv_startH Sc hpin e0 hl r x
  refine wpAny_mono (ht.run [] s1 (L2.start N vs) H _ I hq) (fun fl s' hs => ?_) fun e s' hs => hs
  have fin : ∀ {σ' : L2.St} {H' : Hp} {v : V} {u : Value}, Inv (L2H.cxH CX P w K mg base N qual scope f cdv A outer s H E p) [] σ' H' s' → RelV v u → Q v H' → CE outer P w H s Q u s' :=
    fun {σ' H' v u} J rv q => ⟨v, H', J.os, J.bare, J.base, J.hok, rv, q⟩
  cases fl with
  | ret u =>
    obtain ⟨v, σ', H', J, rv, q⟩ := hs
    exact fin J rv q
  | next =>
    obtain ⟨σ', H', J, q⟩ := hs
    exact fin (v := V.non) (u := Value.none) J rfl q
  | brk =>
    obtain ⟨_, _, _, q⟩ := hs
    exact False.elim q
  | cont =>
    obtain ⟨_, _, _, q⟩ := hs
    exact False.elim q
theorem fn_vlX {k fuel : Nat} {x qual : Str} {params : Arguments} {body : List Stmt} {f : Addr} {fd : FuncData} {ps : List Str} {ir : VSs} (M : Mod C Γ P w mg base cc lv) (F : FunD C.K x qual params body cc.sc [] [] f fd) (Sc : FnScope cc.N ps cc.sc) (hfn : cc.fn = fun _ => true) (hh : cc.hot = true)
    (hir : mapS (cS fuel cc) body = ir) (harg : ∀ x : (Γ k).α, ((Γ k).arg x).length = ps.length)
    (hval : ∀ x : (Γ k).α, (Γ k).pre x → wSs Γ ir (startV cc.N ((Γ k).arg x)) { nx := fun _ => (Γ k).post x false .non, rt := (Γ k).post x } fun e _ => (Γ k).exc x e) :
    FnX P w C.K mg base (L2N.CX P w) (lv + 1) f fd ps (fun p => lift C (HotP C p) (Γ k)) := by
  have hps : ps.length ≤ cc.N.length := by have := congrArg List.length Sc.pre; rw [List.length_take] at this; omega
  obtain ⟨oc, od, dV, kV, doc, pm, an, cdv, ct, osl, rfl, lk, hcd, _, _⟩ := F.ex
  refine fn_ofX lk hcd Sc (fun p vs H Q E h => ?_) (fun A outer s H vs Q E p hot hr h => ?_)
  · obtain ⟨S, Fz, y, _, _, _, r, _⟩ := h
    rw [r.len, harg]
  · obtain ⟨S, Fz, y, ⟨c, dx, hx1, zn, hfv⟩, hs, st, r, hp, hq, he⟩ := h
    have cx : CtxS C Γ (L2H.cxH (L2N.CX P w) P w C.K mg base cc.N qual cc.sc f cdv A outer s H E p) cc ⟨fun cls d _ H => E cls d H, HotA C p.1 (.ref (C.cls c)) (some dx)⟩ := {
      hN := rfl
      sc := rfl
      fn := by rw [hfn] <;> rfl
      nd := Sc.nd
      K := rfl
      cold := fun z => by rw [hh] at z; cases z
      hot := fun _ => ⟨p, .ref (C.cls c), some dx, List.mem_cons_self, zn, hfv, hot.1, rfl⟩
      fl := M.fl
      ix := M.ix
      un := by have := hr.un; show (A.deeper _).units + 64 < cLine; omega
      tk := L2N.takes_of rfl rfl rfl rfl
      po := passes_of (K := fun e s' => L2N.CX P w outer H s E e s') rfl
      fns := fun z j hz => by
        obtain ⟨g, gd, qs, G, g1, g2, g3⟩ := M.fnsX hh z j hz
        exact ⟨lv, g, gd, qs, (fun z => by rw [hh] at z; cases z), fun _ => ⟨G, hr⟩, g1, g2, g3⟩
      cons := M.cons
      blt := M.blt
      mks := fun z => by rw [hh] at z; cases z
      ofl := M.ofl
      mtd := fun z => by rw [hh] at z; cases z
      itf := fun z => by rw [hh] at z; cases z
      stk := rfl
      frm := rfl
      rs := fun z => by rw [hh] at z; cases z
      hf := fun z => by rw [hh] at z; cases z }
    refine ⟨tSs C Γ ⟨fun cls d _ H => E cls d H, HotA C p.1 (.ref (C.cls c)) (some dx)⟩ (mapS (cS fuel cc) body), k_list (fun s => allS fuel _ _ _ cx s) body, ?_⟩
    rw [hir]
    refine ⟨S, Fz, H, Fz, _, _, _, ok_start hs st r (by rw [r.len, harg]; exact hps), hval y hp, ⟨⟨c, dx, hx1, rfl, rfl⟩, ?_⟩, ?_⟩
    · intro e ρ F1 H1 σ cls d O1 ea hE
      exact he e cls d F1 H1 hE O1.ext ea
    · refine ⟨fun σ ρ F1 H1 O1 hE => hq false .non .non F1 H1 hE O1.ext (rep_non (C := C) (S := S) (F := F1)), fun _ _ _ _ _ z => z.elim, fun _ _ _ _ _ z => z.elim, fun o d v F1 H1 hE hR hp => hq o d v F1 H1 hp hE hR⟩

/-! ### __init__ of an own exception -/
theorem init2 {K : PySem.W.Frag} {f : Addr} {fd : FuncData} {x qual : Str} {params : Arguments} {scope : Scope} {a b : Str} {p1 p2 p3 p4 p5 p6 p7 p8 : Pos} {Cl : Addr} (F : FunD K x qual params [.Assign [.Attribute (.Name "self" p1) a p2] (.Name a p3) p4, .Assign [.Attribute (.Name "self" p5) b p6] (.Name b p7) p8] scope [] [] f fd)
    (Sc : FnScope ["self", a, b] ["self", a, b] scope) (hv : ∀ y ∈ (["self", a, b] : List Str), scope.names.lookup y = some .local ∧ okN y = true) (T : OexC K Cl) (ha : PySem.W.findIn K (.ref Cl) a = some none) (hb : PySem.W.findIn K (.ref Cl) b = some none) :
    FnOk P w K mg base (L2N.CX P w) 1 f fd ["self", a, b] (initSp Cl [a, b]) := by
  have vis : ∀ y ∈ (["self", a, b] : List Str), Vis scope y := fun y hy => .inl (hv y hy).1
  refine F.ok Sc (fun vs H Q E h => ?_) (fun cdv A outer s H vs Q E hr h => ⟨_, pss_cons (ps_ost (pe_var (i := 0) rfl (vis _ (by simp)) (okN_ok (hv _ (by simp)).2).1 (okN_ok (hv _ (by simp)).2).2) (pe_var (i := 1) rfl (vis _ (by simp)) (okN_ok (hv _ (by simp)).2).1 (okN_ok (hv _ (by simp)).2).2))
    (pss_one (ps_ost (pe_var (i := 0) rfl (vis _ (by simp)) (okN_ok (hv _ (by simp)).2).1 (okN_ok (hv _ (by simp)).2).2) (pe_var (i := 2) rfl (vis _ (by simp)) (okN_ok (hv _ (by simp)).2).1 (okN_ok (hv _ (by simp)).2).2))), ?_⟩)
  · obtain ⟨a, ws, rfl, e, _⟩ := h
    rw [List.length_cons, e] <;> rfl
  · obtain ⟨e, ws, rfl, hl, he, hq⟩ := h
    match ws, hl with
    | [y1, y2], _ =>
      refine ⟨y1, rfl, .ref e, rfl, e, Cl, rfl, T, ha, .inl ⟨he, fun dx hd hde => ?_⟩⟩
      have hed : e ≠ dx := fun z => hde z.symm
      refine ⟨y2, rfl, .ref e, rfl, e, Cl, rfl, T, hb, .inr ⟨dx, [(a, y1)], ?_, ?_, by simp, ?_⟩⟩
      · rw [upd_same]
      · rw [upd_ne hde, upd_same]
      · refine hq dx _ hd hde ?_ ?_ ?_
        · rw [upd_ne hed, upd_same]
        · rw [upd_same]; rfl
        · intro b' h1 h2
          rw [upd_ne h2, upd_ne h1, upd_ne h2]
theorem init1 {K : PySem.W.Frag} {f : Addr} {fd : FuncData} {x qual : Str} {params : Arguments} {scope : Scope} {a : Str} {p1 p2 p3 p4 : Pos} {Cl : Addr} (F : FunD K x qual params [.Assign [.Attribute (.Name "self" p1) a p2] (.Name a p3) p4] scope [] [] f fd)
    (Sc : FnScope ["self", a] ["self", a] scope) (hv : ∀ y ∈ (["self", a] : List Str), scope.names.lookup y = some .local ∧ okN y = true) (T : OexC K Cl) (ha : PySem.W.findIn K (.ref Cl) a = some none) :
    FnOk P w K mg base (L2N.CX P w) 1 f fd ["self", a] (initSp Cl [a]) := by
  have vis : ∀ y ∈ (["self", a] : List Str), Vis scope y := fun y hy => .inl (hv y hy).1
  refine F.ok Sc (fun vs H Q E h => ?_) (fun cdv A outer s H vs Q E hr h => ⟨_, pss_one (ps_ost (pe_var (i := 0) rfl (vis _ (by simp)) (okN_ok (hv _ (by simp)).2).1 (okN_ok (hv _ (by simp)).2).2) (pe_var (i := 1) rfl (vis _ (by simp)) (okN_ok (hv _ (by simp)).2).1 (okN_ok (hv _ (by simp)).2).2)), ?_⟩)
  · obtain ⟨a, ws, rfl, e, _⟩ := h
    rw [List.length_cons, e] <;> rfl
  · obtain ⟨e, ws, rfl, hl, he, hq⟩ := h
    match ws, hl with
    | [y1], _ =>
      refine ⟨y1, rfl, .ref e, rfl, e, Cl, rfl, T, ha, .inl ⟨he, fun dx hd hde => ?_⟩⟩
      have hed : e ≠ dx := fun z => hde z.symm
      refine hq dx _ hd hde ?_ ?_ ?_
      · rw [upd_same]
      · rw [upd_ne hde, upd_same]; rfl
      · intro b' h1 h2
        rw [upd_ne h1, upd_ne h2]
theorem fo2 {C : CT} {c : Nat} {a b : Str} (h : C.fld c = [a, b]) (ne : a ≠ b) : ∀ ws, ws.length = (C.fld c).length → FldsOf C c ((C.fld c).zip ws).reverse ws := by
  rw [h]
  intro ws hl
  match ws, hl with
  | [y1, y2], _ =>
    refine ⟨by rw [h] <;> rfl, fun i f hi => ?_⟩
    rw [h] at hi
    match i, hi with
    | 0, hi =>
      cases hi
      show List.lookup a [(b, y2), (a, y1)] = some y1
      rw [lookup_put, if_neg ne, lookup_put, if_pos rfl]
    | 1, hi =>
      cases hi
      show List.lookup b [(b, y2), (a, y1)] = some y2
      rw [lookup_put, if_pos rfl]
    | i + 2, hi => simp at hi
theorem fo1 {C : CT} {c : Nat} {a : Str} (h : C.fld c = [a]) : ∀ ws, ws.length = (C.fld c).length → FldsOf C c ((C.fld c).zip ws).reverse ws := by
  rw [h]
  intro ws hl
  match ws, hl with
  | [y1], _ =>
    refine ⟨by rw [h] <;> rfl, fun i f hi => ?_⟩
    rw [h] at hi
    match i, hi with
    | 0, hi =>
      cases hi
      show List.lookup a [(a, y1)] = some y1
      rw [lookup_put, if_pos rfl]
    | i + 1, hi => simp at hi
end
end VL
set_option maxHeartbeats 4000000
/-! VLna: __init__, __iter__, __len__ of an own class. -/
namespace VL
open PySem PySem.Spec PyProof.Rows L2
/-- an __init__ that fills the fields: which, with what -/
def initV (n : Nat) (cc : CC) : List Stmt → Option (List (Str × VE))
  | [] => some []
  | .Assign [.Attribute (.Name x _) f _] e _ :: ss => if decide (x = ("self" : Str)) then (initV n cc ss).map ((f, cE n cc e) :: ·) else none
  | _ => none
/-- its reading -/
def wIn (Γ : Nat → VSp) : List VE → En → List D → (List D → Prop) → Prop
  | [], _, acc, K => K acc
  | e :: es, ρ, acc, K => wE Γ e ρ (fun r ρ1 => r.lv ρ1 (wIn Γ es (r.fz ρ1) (acc ++ [r.d]) K)) fun _ _ => False
section
variable {C : CT} {Γ : Nat → VSp} {P : Program} {w : World} {mg : Str → Option Value} {base : Heap} {cc : CC} {lv : Nat}
/-- the object in the making -/
structure InSt (C : CT) (c : Nat) (S : SG) (F0 H0 F H : Hp) (σ : L2.St) (ρ : En) (a dx : Addr) (ds : List VL.D) (us : List V) (fs : List Str) : Prop where
  ok : OK C S F0 H0 F H σ ρ
  z : H a = some (.ins (C.cls c) dx (fs.zip us))
  h0 : H0 a = none
  fD : F a = none
  nD : NoSlot σ ρ a
  s0 : σ[0]? = some (some (.ref a))
  hp : a ≠ S.p
  r : Reps C S F ds us
  len : us.length = fs.length
def tIn (C : CT) (Γ : Nat → VSp) (c : Nat) (l : List (Str × VE)) : TS := fun D σ H => ∃ (S : SG) (F0 H0 F : Hp) (ρ : En) (a dx : Addr) (ds : List VL.D) (us : List V) (fs : List Str) (K : List VL.D → Prop), InSt C c S F0 H0 F H σ ρ a dx ds us fs ∧ S.x = none ∧ C.fld c = fs ++ l.map (·.1) ∧ wIn Γ (l.map (·.2)) ρ ds K ∧
  ∀ F' H' ρ' ds' us', InSt C c S F0 H0 F' H' σ ρ' a dx ds' us' (C.fld c) → K ds' → D.nx σ H'
theorem putF_new {f : Str} {v : V} : ∀ {fs : List Str} {us : List V}, f ∉ fs → us.length = fs.length → putF f v (fs.zip us) = (fs ++ [f]).zip (us ++ [v])
  | [], [], _, _ => rfl
  | g :: fs, u :: us, h, l => by
    have hg : g ≠ f := fun z => h (by rw [z]; exact List.mem_cons_self)
    show putF f v ((g, u) :: fs.zip us) = (g, u) :: (fs ++ [f]).zip (us ++ [v])
    unfold putF
    rw [if_neg hg, putF_new (fun z => h (List.mem_cons_of_mem _ z)) (by simpa using l)]
  | [], _ :: _, _, l => by simp at l
  | _ :: _, [], _, l => by simp at l
theorem ps_init {X : Cx} {W : WP} (cx : Ctx C Γ X cc ⟨fun _ _ _ _ => False, Cold⟩) {n c : Nat} (hcl : Cls C.K (C.cls c)) (hno : ∀ f ∈ C.fld c, NoAttr C.K (C.cls c) f) (hnd : (C.fld c).Nodup) (hlen : (C.fld c).length < 1000) (hN : X.N[0]? = some ("self" : Str)) (hv : Vis X.env.scope "self") :
    ∀ {body : List Stmt} {l : List (Str × VE)}, initV n cc body = some l → PSs X body (tIn C Γ c l)
  | [], l, h => by
    cases h
    refine pss_imp pss_nil ?_
    rintro D σ H ⟨S, F0, H0, F, ρ, a, dx, ds, us, fs, K, st, hS, hf, hw, hk⟩
    simp only [List.map_nil, List.append_nil] at hf
    exact hk F H ρ ds us (by rw [hf]; exact st) hw
  | st :: ss, l, h => by
    unfold initV at h
    split at h
    · rename_i heq; cases heq
    · rename_i x p f p' e pos ss' heq
      cases heq
      split at h
      · rename_i hx
        simp only [decide_eq_true_eq] at hx
        subst hx
        rw [Option.map_eq_some_iff] at h
        obtain ⟨l', hl', rfl⟩ := h
        refine pss_imp (pss_cons (ps_fld (pe_var hN hv) ((allE n).1 cx e) (by cases e <;> rfl)) (ps_init (W := W) cx hcl hno hnd hlen hN hv hl')) ?_
        rintro D σ H ⟨S, F0, H0, F, ρ, a, dx, ds, us, fs, K, st, hS, hf, hw, hk⟩
        have hF0 : F0 a = none := by
          cases q : F0 a with
          | none => rfl
          | some o => exact absurd (st.ok.f0 a o q) (by rw [st.fD]; exact fun z => by cases z)
        have O1 := st.ok.rebase st.z st.h0 st.fD st.nD st.hp
        simp only [List.map_cons] at hf hw
        unfold wIn at hw
        refine ⟨S, F0, _, F, ρ, _, _, O1, hw, ⟨hS, fun _ _ _ _ _ _ _ _ _ z => z.elim⟩, fun r ρ1 v F1 H1 O2 t1 q1 f1 hk1 => ?_⟩
        obtain ⟨F2, O3, t2, r2, hk1⟩ := freeze O2 q1 hk1
        obtain ⟨O4, fD, zD, nD⟩ := O3.unbase (fun _ z => nomatch z) st.h0 hF0 st.hp
        refine ⟨_, st.s0, a, C.cls c, dx, fs.zip us, rfl, zD, by rw [cx.K]; exact hcl, by rw [cx.K]; exact hno f (by rw [hf]; simp), ?_, ?_⟩
        · have e1 := congrArg List.length hf
          rw [List.length_append] at e1
          rw [List.length_zip]
          omega
        · have hnf : f ∉ fs := fun z => by
            rw [hf] at hnd
            exact (List.nodup_append.mp hnd).2.2 f z f List.mem_cons_self rfl
          rw [putF_new hnf st.len]
          exact ⟨S, F0, H0, F2, _, a, dx, ds ++ [r.d], us ++ [v], fs ++ [f], K, ⟨O4.updFree st.h0 fD nD st.hp, upd_same, st.h0, fD, nD, st.s0, st.hp, (st.r.mono (t1.f.trans t2.f)).app (.cons r2 .nil), by rw [List.length_append, List.length_append, st.len]; rfl⟩, hS, by rw [hf]; simp, hk1, hk⟩
      · cases h
    · cases h
/-- a slot forgotten, whatever stands there -/
theorem OK.forget {S : SG} {F0 H0 F H : Hp} {σ : L2.St} {ρ : En} (O : OK C S F0 H0 F H σ ρ) (i : Nat) (u : Option V) : OK C S F0 H0 F H (σ.set i u) (ρ.set i .un) where
  sub := O.sub
  fr := O.fr
  p0 := O.p0
  f0 := O.f0
  fn := O.fn
  len := by rw [List.length_set, List.length_set]; exact O.len
  val := fun j d' h => by
    rcases get_set h with ⟨hj, z⟩ | ⟨hj, z⟩
    · cases z
    · obtain ⟨w, e, rw1⟩ := O.val j d' z
      exact ⟨w, by rw [List.getElem?_set_ne (Ne.symm hj)]; exact e, rw1⟩
  own := fun j d' h => by
    rcases get_set h with ⟨_, z⟩ | ⟨hj, z⟩
    · cases z
    · obtain ⟨a, e, k⟩ := O.own j d' z
      exact ⟨a, by rw [List.getElem?_set_ne (Ne.symm hj)]; exact e, k⟩
  dis := fun j k d' e' b h1 h2 s1 s2 => by
    rcases get_set h1 with ⟨_, z⟩ | ⟨hj, z⟩
    · cases z
    · rcases get_set h2 with ⟨_, z2⟩ | ⟨hk, z2⟩
      · cases z2
      · rw [List.getElem?_set_ne (Ne.symm hj)] at s1
        rw [List.getElem?_set_ne (Ne.symm hk)] at s2
        exact O.dis j k d' e' b z z2 s1 s2
  sto := O.sto
theorem fn_init {k fuel c : Nat} {x qual : Str} {params : Arguments} {body : List Stmt} {f : Addr} {fd : FuncData} {ps : List Str} {l : List (Str × VE)} (M : Mod C Γ P w mg base cc lv) (F : FunD C.K x qual params body cc.sc [] [] f fd) (Sc : FnScope cc.N ps cc.sc) (hfn : cc.fn = fun _ => true) (hcold : cc.hot = false)
    (hcl : Cls C.K (C.cls c)) (hno : ∀ f ∈ C.fld c, NoAttr C.K (C.cls c) f) (hnd : (C.fld c).Nodup) (hlen : (C.fld c).length < 1000) (hN : cc.N[0]? = some ("self" : Str)) (hv : cc.sc.names.lookup ("self" : Str) = some .local)
    (hir : initV fuel cc body = some l) (hfl : l.map (·.1) = C.fld c) (harg : ∀ x : (Γ k).α, ((Γ k).arg x).length + 1 = ps.length)
    (hval : ∀ x : (Γ k).α, (Γ k).pre x → wIn Γ (l.map (·.2)) ((startV cc.N (.non :: (Γ k).arg x)).set 0 .un) [] fun fs => (Γ k).post x false (.obj c fs)) :
    FnOk P w C.K mg base (L2N.CX P w) (lv + 1) f fd ps (liftO C c (Γ k)) := by
  have hps : ps.length ≤ cc.N.length := by have := congrArg List.length Sc.pre; rw [List.length_take] at this; omega
  refine F.ok Sc (fun vs H Q E h => ?_) (fun cdv A outer s H vs Q E hr h => ?_)
  · obtain ⟨S, Fz, y, a, dx, ws, rfl, _, _, _, _, r, _⟩ := h
    rw [List.length_cons, r.len, harg]
  · obtain ⟨S, Fz, y, a, dx, ws, rfl, hS, ha, hs, st, r, hp, hq⟩ := h
    have cx : CtxS C Γ (cxOf (L2N.CX P w) P w C.K mg base cc.N qual cc.sc f cdv A outer s H E) cc ⟨fun _ _ _ _ => False, Cold⟩ := M.cxS Sc hfn hcold hr takesN0
    refine ⟨tIn C Γ c l, ps_init (W := ⟨fun _ _ _ _ => False, Cold⟩) cx.toCtx hcl hno hnd hlen hN (.inl hv) hir, ?_⟩
    have hdn : del H a a = none := del_same
    have hpa : a ≠ S.p := fun z => by
      have := st.has
      rw [← z, hdn] at this
      exact this rfl
    have hFa : Fz a = none := by
      cases q : Fz a with
      | none => rfl
      | some o => have := hs a o q; rw [hdn] at this; cases this
    have O0 := ok_start (C := C) (N := cc.N) (ds := .non :: (Γ k).arg y) (vs := .non :: ws) hs st ⟨_, _, rfl, rep_non, r⟩ (by rw [List.length_cons, r.len, harg]; exact hps)
    have O1 := (O0.newO hdn (.ins (C.cls c) dx [])).forget 0 (some (.ref a))
    rw [upd_del ha] at O1
    have hlN : 0 < cc.N.length := by
      have := (List.getElem?_eq_some_iff.mp hN).1
      exact this
    have es : (L2.start cc.N (.non :: ws)).set 0 (some (.ref a)) = L2.start cc.N (.ref a :: ws) := by
      unfold L2.start
      rfl
    rw [es] at O1
    have nos : ∀ (i : Nat) d, ((startV cc.N (VL.D.non :: (Γ k).arg y)).set 0 .un)[i]? = some (.own d) → False := fun i d e => by
      rcases get_set e with ⟨_, z⟩ | ⟨_, z⟩
      · cases z
      · obtain ⟨b, hb, _⟩ := O0.own i d z
        unfold startV at z
        by_cases hi : i < ((VL.D.non :: (Γ k).arg y).map Slot.val).length
        · rw [List.getElem?_append_left hi, List.getElem?_map] at z
          cases q : (VL.D.non :: (Γ k).arg y)[i]? with
          | none => rw [q] at z; cases z
          | some e => rw [q] at z; cases z
        · rw [List.getElem?_append_right (by omega), List.getElem?_replicate] at z
          split at z <;> cases z
    refine ⟨S, Fz, del H a, Fz, _, a, dx, [], [], [], _, ⟨O1, ha, hdn, hFa, fun i d e => (nos i d e).elim, rfl, hpa, .nil, rfl⟩, hS, by rw [List.nil_append]; exact hfl.symm, hval y hp, fun F' H' ρ' ds' us' st' hk => ?_⟩
    have e := st'.ok.ext
    refine hq ds' us' F' H' hk ⟨e.f, fun b o q => ?_, fun b o hb q => ?_, e.fn, ?_⟩ st'.z st'.len st'.r
    · have hx : b ≠ a := fun z => by subst z; rw [st'.fD] at q; cases q
      rw [del_ne hx]; exact e.sub b o q
    · have hx : b ≠ a := fun z => by subst z; rw [hdn] at q; cases q
      rw [del_ne hx]; exact e.fr b o hb q
    · obtain ⟨x1, x2, x3, x4, x5, z, b⟩ := e.sto.st
      exact ⟨e.sto.cells, e.sto.free, e.sto.len, x1, x2, x3, x4, x5, by rw [del_ne (Ne.symm hpa)]; exact z, b⟩
/-! ### a def whose promise speaks of the heap's size -/
theorem fn_ofS {CX : CXT} {K : PySem.W.Frag} {k : Nat} {f : Addr} {name qual : Str} {params : Arguments} {body : List Stmt} {scope : Scope} {dV kV doc pm cdv ct oc : Value} {an od : Option Addr}
    {osl : Array (Option Value)} {N ps : List Str} {sp : Nat → Sp} (lk : K.lookup f = some ⟨oc, od, .func (PySem.W.fnOf name qual params body scope dV kV doc pm an cdv ct), osl⟩) (hcd : PySem.W.codeIn K cdv qual = true) (S : FnScope N ps scope)
    (len : ∀ n vs H Q E, sp n vs H Q E → vs.length = ps.length)
    (hbody : ∀ (A : Around) (outer : List Env) (s : Shared) (H : Hp) (vs : List V) (Q : VK) (E : L2.XK), Room k (A.deeper (envOfC qual scope s.heap.objs.size f cdv)) → sp s.heap.objs.size vs H Q E →
      ∃ t, PSs (cxOf CX P w K mg base N qual scope f cdv A outer s H E) body t ∧ t { nx := fun _ H' => Q .non H', rt := Q } (L2.start N vs) H) :
    FnS P w K mg base CX (k + 1) f (PySem.W.fnOf name qual params body scope dV kV doc pm an cdv ct) ps sp := by
  refine ⟨len, fun A outer s H args us vs Q E hr e0 hb r hsp => ?_⟩
  have hl := len _ _ _ _ _ hsp
  have KX : K.In s.heap := e0.mod.kin.keeps fun b o e => (e0.bs b o e).1
  have lim : s.heap.NoLimit := e0.mod.nolimit.keeps fun b o e => (e0.bs b o e).1
  have hkind : ∀ y ∈ ps.zip us, scope.names.lookup y.1 = some .local ∨ (scope.names.lookup y.1 = some .cell ∧ ((cellsFrom (s.heap.objs.size + 1) scope.names []).lookup y.1).isSome = true) := fun ⟨n, v⟩ hy => by
    rcases S.par n (List.of_mem_zip hy).1 with q | q
    · exact .inl q
    · exact .inr ⟨q, PySem.W.cellsFrom_some _ _ _ (.inl q)⟩
  refine codeAny_call_function hr.depth (KX _ _ lk) rfl S.co S.gen rfl (PySem.W.codeRec_of KX hcd) (hb _ _ _ _ ?_)
  refine wpAny_newFunctionEnv_cells S.kind hkind fun env he s1 x => ?_
  subst he
  refine ⟨lim.keeps x.toInCall.keep, codeAny_func ?_⟩
  obtain ⟨t, ht, hq⟩ := hbody A outer s H vs Q E (hr.deeper _) hsp
  have I : Inv (cxOf CX P w K mg base N qual scope f cdv A outer s H E) [] (L2.start N vs) H s1 := inv_start S hr.hd e0 hl r x
  refine wpAny_mono (ht.run [] s1 (L2.start N vs) H _ I hq) (fun fl s' hs => ?_) fun e s' hs => hs
  have fin : ∀ {σ' : L2.St} {H' : Hp} {v : V} {u : Value}, Inv (cxOf CX P w K mg base N qual scope f cdv A outer s H E) [] σ' H' s' → RelV v u → Q v H' → CE outer P w H s Q u s' :=
    fun {σ' H' v u} J rv q => ⟨v, H', J.os, J.bare, J.base, J.hok, rv, q⟩
  cases fl with
  | ret u =>
    obtain ⟨v, σ', H', J, rv, q⟩ := hs
    exact fin J rv q
  | next =>
    obtain ⟨σ', H', J, q⟩ := hs
    exact fin (v := V.non) (u := Value.none) J rfl q
  | brk =>
    obtain ⟨_, _, _, q⟩ := hs
    exact False.elim q
  | cont =>
    obtain ⟨_, _, _, q⟩ := hs
    exact False.elim q
theorem fn_iter {K : PySem.W.Frag} {c i : Nat} {x qual fl : Str} {params : Arguments} {scope : Scope} {f : Addr} {fd : FuncData} {p1 p2 p3 p4 p5 : Pos} (hK : C.K = K)
    (F : FunD K x qual params [.Return (some (.Call (.Name "iter" p1) [.Attribute (.Name "self" p2) fl p3] [] p4)) p5] scope [] [] f fd) (Sc : FnScope ["self"] ["self"] scope) (hv : scope.names.lookup ("self" : Str) = some .local) (hg : scope.names.lookup ("iter" : Str) = some .globalImplicit) (hm : mg "iter" = none) (hcl : Cls K (C.cls c)) (hno : NoAttr K (C.cls c) fl) (hfi : ∀ vs : List V, vs.length = (C.fld c).length → ((C.fld c).zip vs).lookup fl = vs[i]?) :
    FnS P w K mg base (L2N.CX P w) 1 f fd ["self"] (spIter C K c i) := by
  subst hK
  obtain ⟨oc, od, dV, kV, doc, pm, an, cdv, ct, osl, rfl, lk, hcd, _, _⟩ := F.ex
  refine fn_ofS lk hcd Sc (fun n vs H Q E h => ?_) (fun A outer s H vs Q E hr h => ?_)
  · obtain ⟨a, _, _, _, _, rfl, _⟩ := h
    rfl
  · obtain ⟨a, dx, l, us, zs, rfl, ha, hl, hi, hsq, hq⟩ := h
    refine ⟨_, pss_one (ps_ret (pe_callB (ItX.call_iterN (X := cxOf (L2N.CX P w) P w C.K mg base ["self"] qual scope f cdv A outer s H E)) hg hm (by decide +kernel) (pa_cons (pe_fld (f := fl) (pos := p3) (pe_var (pos := p2) (i := 0) rfl (.inl hv)) rfl) pa_nil rfl))), ?_⟩
    exact ⟨.ref a, rfl, a, _, dx, _, _, rfl, ha, hcl, hno, (hfi us hl).trans hi, l, zs, rfl, hsq, fun it h1 h2 => hq it h1 h2⟩
theorem fn_len {K : PySem.W.Frag} {c i : Nat} {x qual fl : Str} {params : Arguments} {scope : Scope} {f : Addr} {fd : FuncData} {p1 p2 p3 p4 p5 : Pos} (hK : C.K = K)
    (F : FunD K x qual params [.Return (some (.Call (.Name "len" p1) [.Attribute (.Name "self" p2) fl p3] [] p4)) p5] scope [] [] f fd) (Sc : FnScope ["self"] ["self"] scope) (hv : scope.names.lookup ("self" : Str) = some .local) (hg : scope.names.lookup ("len" : Str) = some .globalImplicit) (hm : mg "len" = none) (hcl : Cls K (C.cls c)) (hno : NoAttr K (C.cls c) fl) (hfi : ∀ vs : List V, vs.length = (C.fld c).length → ((C.fld c).zip vs).lookup fl = vs[i]?) :
    FnOk P w K mg base (L2N.CX P w) 1 f fd ["self"] (spLen C K c i) := by
  subst hK
  refine F.ok Sc (fun vs H Q E h => ?_) (fun cdv A outer s H vs Q E hr h => ?_)
  · obtain ⟨a, _, _, _, _, rfl, _⟩ := h
    rfl
  · obtain ⟨a, dx, l, us, zs, rfl, ha, hl, hi, hsq, hq⟩ := h
    refine ⟨_, pss_one (ps_ret (pe_callB (call_len_seq (X := cxOf (L2N.CX P w) P w C.K mg base ["self"] qual scope f cdv A outer s H E)) hg hm (by decide +kernel) (pa_cons (pe_fld (f := fl) (pos := p3) (pe_var (pos := p2) (i := 0) rfl (.inl hv)) rfl) pa_nil rfl))), ?_⟩
    exact ⟨.ref a, rfl, a, _, dx, _, _, rfl, ha, hcl, hno, (hfi us hl).trans hi, l, zs, rfl, .inl hsq, hq⟩
end
end VL
set_option maxHeartbeats 4000000
/-! VLo: what the head must tell of the own exceptions. -/
namespace VL
open PySem PySem.Spec PyProof.Rows L2
def oexB (K : PySem.W.Frag) (C : Addr) : Bool := (match K.lookup C with
  | some ⟨.type "type", _, .cls cd, sl⟩ => (match cd.mro, sl.toList with
    | .ref C' :: bm, [_, _, _, _, some (.builtin n), _] => C' == C && n == "ValueError.__new__" && !cd.hasDel && cd.hasDict && PySem.HandSPX.refsVE bm
    | _, _ => false)
  | _ => false) && (decide (PySem.W.findIn K (.ref C) "__setattr__" = some (some (.builtin "object.__setattr__"))) && (decide (PySem.W.subIn K (.ref C) (.type "BaseException") = some true) && (decide (PySem.W.typeIn K (.ref C) = some (.type "type")) && PySem.W.keepIn K (.ref C))))
theorem oexB_ok {K : PySem.W.Frag} {C : Addr} (h : oexB K C = true) : OexC K C := by
  unfold oexB at h
  simp only [Bool.and_eq_true, decide_eq_true_eq] at h
  obtain ⟨q, h1, h2, h3, h4⟩ := h
  refine ⟨?_, h1, h2, h3, h4⟩
  split at q
  · rename_i dd cd sl ho
    split at q
    · rename_i C' bm k0 k1 k2 k3 n k5 hm hs
      simp only [Bool.and_eq_true, beq_iff_eq, Bool.not_eq_true'] at q
      obtain ⟨⟨⟨⟨rfl, rfl⟩, hdel⟩, hdct⟩, ht⟩ := q
      obtain ⟨nm, bs, mro, ns, qn, hd, sn, sub, ab, col, del⟩ := cd
      dsimp only at hm hdel hdct
      subst hm hdel hdct
      have hsl : sl = #[k0, k1, k2, k3, some (.builtin "ValueError.__new__"), k5] := by
        obtain ⟨l⟩ := sl
        simp only at hs
        rw [hs]
      subst hsl
      exact ⟨nm, qn, ns, bs, bm, sn, sub, ab, col, dd, k0, k1, k2, k3, k5, ho, ht⟩
    · cases q
  · cases q
def excCB (K : PySem.W.Frag) (D : Addr) : Bool := decide (PySem.W.findIn K (.ref D) "__getattribute__" = some (some (.builtin "BaseException.__getattribute__"))) && (decide (PySem.W.findIn K (.ref D) "__getattr__" = some none) && (decide (PySem.W.subIn K (.ref D) (.type "BaseException") = some true) && (PySem.W.hasDictIn K D &&
  (decide (PySem.W.findIn K (.ref D) "__class__" = some (some (.builtin "object.__class__"))) && (decide (PySem.W.specialIn K (.builtin "object.__class__") "__get__" = some (some (.builtin "getset_descriptor.__get__"))) && (decide (PySem.W.takesIn K (.builtin "object.__class__") = some true) && decide (PySem.W.mroIn K D (.type "object") = some true)))))))
theorem excCB_ok {K : PySem.W.Frag} {D : Addr} (h : excCB K D = true) : ExcC K D := by
  unfold excCB at h
  simp only [Bool.and_eq_true, decide_eq_true_eq] at h
  obtain ⟨h1, h2, h3, h4, h5, h6, h7, h8⟩ := h
  exact ⟨h1, h2, h3, h4, h5, h6, h7, h8⟩
/-- a class's meaning: a global of the module, a built-in class -/
inductive CN where
  | own (x : Str)
  | blt (n : String)
def CN.v (K : PySem.W.Frag) : CN → Value
  | .own x => .ref (He.ga K x)
  | .blt n => .type n
/-- a class that is raised: its name, its fields -/
def rcB (K : PySem.W.Frag) (x : Str) (fs : List Str) : Bool := oexB K (He.ga K x) && (xfB K (He.ga K x) && (excCB K (He.ga K x) && (decide (PySem.W.findIn K (.ref (He.ga K x)) "__init__" = some (some (.ref (He.ma K (He.ga K x) "__init__")))) && (decide (PySem.W.typeIn K (.ref (He.ma K (He.ga K x) "__init__")) = some (.type "function")) &&
  fs.all fun f => decide (PySem.W.findIn K (.ref (He.ga K x)) f = some none)))))
def isB (K : PySem.W.Frag) (x : Str) (t : CN) (b : Bool) : Bool := decide (PySem.W.kitOne K (.ref (He.ga K x)) (t.v K) = some b) && decide (PySem.W.exmOne K (.ref (He.ga K x)) (t.v K) = some b)
def ctOf (K : PySem.W.Frag) (cn : List (Str × List Str)) : CT := ⟨K, fun n => He.ga K (cn.getD n ("", [])).1, fun n => (cn.getD n ("", [])).2⟩
/-- all that is asked of the own exceptions: rs the raised ones (name, fields), ts the names that isinstance and except name, with the answers -/
def exB (rs : List (Str × List Str)) (ts : List (Str × CN × List Bool)) (K : PySem.W.Frag) : Bool := (rs.all fun r => rcB K r.1 r.2) && ts.all fun t => ((rs.zip t.2.2).all fun q => isB K q.1.1 t.2.1 q.2)
structure RcOk (K : PySem.W.Frag) (x : Str) (fs : List Str) : Prop where
  o : OexC K (He.ga K x)
  f : XfC K (He.ga K x)
  e : ExcC K (He.ga K x)
  i : PySem.W.findIn K (.ref (He.ga K x)) "__init__" = some (some (.ref (He.ma K (He.ga K x) "__init__")))
  t : PySem.W.typeIn K (.ref (He.ma K (He.ga K x) "__init__")) = some (.type "function")
  no : ∀ f ∈ fs, PySem.W.findIn K (.ref (He.ga K x)) f = some none
theorem rcB_ok {K : PySem.W.Frag} {x : Str} {fs : List Str} (h : rcB K x fs = true) : RcOk K x fs := by
  unfold rcB at h
  simp only [Bool.and_eq_true, decide_eq_true_eq] at h
  obtain ⟨h1, h2, h3, h4, h5, h6⟩ := h
  exact ⟨oexB_ok h1, xfB_ok h2, excCB_ok h3, h4, h5, fun f hf => of_decide_eq_true (List.all_eq_true.mp h6 f hf)⟩
theorem exB_rc {rs : List (Str × List Str)} {ts : List (Str × CN × List Bool)} {K : PySem.W.Frag} (h : exB rs ts K = true) {x : Str} {fs : List Str} (hm : (x, fs) ∈ rs) : RcOk K x fs := by
  unfold exB at h
  rw [Bool.and_eq_true] at h
  exact rcB_ok (List.all_eq_true.mp h.1 _ hm)
theorem exB_is {rs : List (Str × List Str)} {ts : List (Str × CN × List Bool)} {K : PySem.W.Frag} (h : exB rs ts K = true) {t : Str} {cn : CN} {bs : List Bool} (hm : (t, cn, bs) ∈ ts) {r : Str × List Str} {b : Bool} (hr : (r, b) ∈ rs.zip bs) :
    PySem.W.kitOne K (.ref (He.ga K r.1)) (cn.v K) = some b ∧ PySem.W.exmOne K (.ref (He.ga K r.1)) (cn.v K) = some b := by
  unfold exB at h
  rw [Bool.and_eq_true] at h
  have h1 := List.all_eq_true.mp (List.all_eq_true.mp h.2 _ hm) _ hr
  unfold isB at h1
  rw [Bool.and_eq_true, decide_eq_true_eq, decide_eq_true_eq] at h1
  exact h1
/-- the j-th statement of a class's body -/
def clsFn (s : Stmt) (j : Nat) : Stmt := match s with
  | .ClassDef _ _ _ body _ _ _ _ _ _ _ => body.getD j (.Pass ⟨0, 0, 0, 0⟩)
  | _ => .Pass ⟨0, 0, 0, 0⟩
/-- a class's __init__, as the head tells of it -/
def ini (x q : Str) (s : Stmt) (j : Nat) : He.DefD := ⟨(x, some "__init__"), "__init__", q, defArgs (clsFn s j), defBody (clsFn s j), defScope (clsFn s j), [], []⟩
/-! ### own plain classes -/
def mB (K : PySem.W.Frag) (x m : Str) : Bool := decide (PySem.W.findIn K (.ref (He.ga K x)) m = some (some (.ref (He.ma K (He.ga K x) m)))) && (PySem.W.isFn K (.ref (He.ma K (He.ga K x) m)) && (PySem.W.keepIn K (.ref (He.ma K (He.ga K x) m)) && PySem.W.fnIn K (He.ma K (He.ga K x) m)))
/-- a class: its name, its fields, its methods -/
def ocB (K : PySem.W.Frag) (x : Str) (fs ms : List Str) : Bool := PySem.W.plainGet K (He.ga K x) Str.empty && (PySem.W.hasDictIn K (He.ga K x) && (PySem.W.plainOver K (He.ga K x) && (decide (PySem.W.findIn K (.ref (He.ga K x)) "__setattr__" = some (some (.builtin "object.__setattr__"))) &&
  (PySem.W.makesIn K (He.ga K x) && (PySem.W.keepIn K (.ref (He.ga K x)) && (PySem.W.selfFirst K (He.ga K x) && (PySem.W.notFirst K (He.ga K x) (.ref (He.ga K x)) && (decide (PySem.W.findIn K (.ref (He.ga K x)) "__length_hint__" = some none) &&
  (fs.all (fun f => decide (PySem.W.findIn K (.ref (He.ga K x)) f = some none)) && ms.all fun m => mB K x m)))))))))
structure OcOk (K : PySem.W.Frag) (x : Str) (fs ms : List Str) : Prop where
  c : Cls K (He.ga K x)
  mks : PySem.W.makesIn K (He.ga K x) = true
  kp : PySem.W.keepIn K (.ref (He.ga K x)) = true
  sf : PySem.W.selfFirst K (He.ga K x) = true
  nf : PySem.W.notFirst K (He.ga K x) (.ref (He.ga K x)) = true
  hint : PySem.W.findIn K (.ref (He.ga K x)) "__length_hint__" = some none
  no : ∀ f ∈ fs, NoAttr K (He.ga K x) f
  m : ∀ m ∈ ms, Meth K (He.ga K x) m (He.ma K (He.ga K x) m) ∧ PySem.W.fnIn K (He.ma K (He.ga K x) m) = true
theorem ocB_ok {K : PySem.W.Frag} {x : Str} {fs ms : List Str} (h : ocB K x fs ms = true) : OcOk K x fs ms := by
  unfold ocB at h
  simp only [Bool.and_eq_true, decide_eq_true_eq] at h
  obtain ⟨h1, h2, h3, h4, h5, h6, h7, h8, h9, h10, h11⟩ := h
  refine ⟨⟨h1, h2, h3, h4⟩, h5, h6, h7, h8, h9, fun f hf => show PySem.W.findIn K (.ref (He.ga K x)) f = some none from of_decide_eq_true (List.all_eq_true.mp h10 f hf), fun m hm => ?_⟩
  have q := List.all_eq_true.mp h11 m hm
  unfold mB at q
  simp only [Bool.and_eq_true, decide_eq_true_eq] at q
  obtain ⟨q1, q2, q3, q4⟩ := q
  exact ⟨⟨q1, q2, q3⟩, q4⟩
theorem OcOk.made {K : PySem.W.Frag} {x : Str} {fs ms : List Str} (o : OcOk K x fs ms) (h : ("__init__" : Str) ∈ ms) : Mk K (He.ga K x) (He.ma K (He.ga K x) "__init__") := ⟨o.mks, (o.m _ h).1.at_, (o.m _ h).1.fn, o.kp⟩
def exO (rs : List (Str × List Str)) (ts : List (Str × CN × List Bool)) (os : List (Str × List Str × List Str)) (K : PySem.W.Frag) : Bool := exB rs ts K && os.all fun o => ocB K o.1 o.2.1 o.2.2
theorem exO_ex {rs : List (Str × List Str)} {ts : List (Str × CN × List Bool)} {os : List (Str × List Str × List Str)} {K : PySem.W.Frag} (h : exO rs ts os K = true) : exB rs ts K = true := by
  unfold exO at h
  rw [Bool.and_eq_true] at h
  exact h.1
theorem exO_oc {rs : List (Str × List Str)} {ts : List (Str × CN × List Bool)} {os : List (Str × List Str × List Str)} {K : PySem.W.Frag} (h : exO rs ts os K = true) (i : Nat) {o : Str × List Str × List Str} (ho : os[i]? = some o) : OcOk K o.1 o.2.1 o.2.2 := by
  unfold exO at h
  rw [Bool.and_eq_true] at h
  exact ocB_ok (List.all_eq_true.mp h.2 o (List.mem_of_getElem? ho))
theorem zip_at {f : Str} : ∀ {fs : List Str} {vs : List V} {i : Nat}, fs.Nodup → fs[i]? = some f → vs.length = fs.length → (fs.zip vs).lookup f = vs[i]?
  | [], _, i, _, h, _ => by simp at h
  | g :: fs, [], _, _, _, l => by simp at l
  | g :: fs, v :: vs, 0, _, h, l => by
    have e : g = f := Option.some.inj h
    show List.lookup f ((g, v) :: fs.zip vs) = some v
    rw [List.lookup_cons, e, beq_self_eq_true]
  | g :: fs, v :: vs, i + 1, hn, h, l => by
    rw [List.nodup_cons] at hn
    have h' : fs[i]? = some f := h
    have hg : (f == g) = false := by
      rw [beq_eq_false_iff_ne]
      intro z
      subst z
      exact hn.1 (List.mem_of_getElem? h')
    show List.lookup f ((g, v) :: fs.zip vs) = vs[i]?
    rw [List.lookup_cons, hg]
    exact zip_at hn.2 h' (by simpa using l)
theorem zip_no {m : Str} : ∀ {fs : List Str}, m ∉ fs → ∀ vs : List V, (fs.zip vs).lookup m = none
  | [], _, _ => rfl
  | _ :: _, _, [] => rfl
  | g :: fs, h, v :: vs => by
    have hg : (m == g) = false := by
      rw [beq_eq_false_iff_ne]
      intro z
      exact h (by rw [z]; exact List.mem_cons_self)
    show List.lookup m ((g, v) :: fs.zip vs) = none
    rw [List.lookup_cons, hg]
    exact zip_no (fun z => h (List.mem_cons_of_mem _ z)) vs
/-- a method, as the head tells of it -/
def mdd (x m q : Str) (s : Stmt) (j : Nat) : He.DefD := ⟨(x, some m), m, q, defArgs (clsFn s j), defBody (clsFn s j), defScope (clsFn s j), [], []⟩
end VL
set_option maxHeartbeats 4000000
/-! VLp: a small language of numbers, for the def that draws from the store. Slot 0 holds the store. -/
namespace VL
open PySem PySem.Spec PyProof.Rows L2
namespace NL
/-- the store's keys -/
inductive Ky where
  | at | rest | left | turn | seed
def Ky.str : Ky → Str
  | .at => "at"
  | .rest => "rest"
  | .left => "left"
  | .turn => "turn"
  | .seed => "seed"
def kyOf (k : Str) : Option Ky := if k = ("at" : Str) then some .at else if k = ("rest" : Str) then some .rest else if k = ("left" : Str) then some .left else if k = ("turn" : Str) then some .turn else if k = ("seed" : Str) then some .seed else none
theorem kyOf_ok {k : Str} {y : Ky} (h : kyOf k = some y) : k = y.str := by
  unfold kyOf at h
  split at h
  · cases h; assumption
  · split at h
    · cases h; assumption
    · split at h
      · cases h; assumption
      · split at h
        · cases h; assumption
        · split at h
          · cases h; assumption
          · cases h
inductive E where
  | bad | var (i : Nat) | lit (n : Int) | bin (op : Operator) (a b : E) | get (k : Ky) | cell (e : E) | ncells | abs (e : E) | toi (e : E) | mix (a b : E)
inductive T where
  | bad | cmp (op : CmpOp) (a b : E) | or (a b : T)
mutual
inductive S where
  | bad | set (i : Nat) (e : E) | put (k : Ky) (e : E) | aug (k : Ky) (op : Operator) (e : E) | ifS (c : T) (a b : Ss) | for (i : Nat) (n : Int) (b : Ss) | brk | ret (e : E)
inductive Ss where
  | nil | cons (s : S) (ss : Ss)
end
structure Z where
  live : Bool
  l : List (Option Int)
  a : Int
  r : Int
  f : Int
  t : Int
  s : Int
/-- the store's numbers by key -/
def Z.get (z : Z) (k : Ky) : Option Int := match z.live, k with
  | false, _ => none
  | true, .at => some z.a
  | true, .rest => some z.r
  | true, .left => some z.f
  | true, .turn => some z.t
  | true, .seed => some z.s
def Z.put (z : Z) (k : Ky) (v : Int) : Option Z := match z.live, k with
  | false, _ => none
  | true, .at => some { z with a := v }
  | true, .rest => some { z with r := v }
  | true, .left => some { z with f := v }
  | true, .turn => some { z with t := v }
  | true, .seed => none
def bin (op : Operator) (i j : Int) (K : Int → Prop) : Prop := match op with
  | .Add => K (i + j)
  | .Sub => K (i - j)
  | .Mult => MulOk i j ∧ K (i * j)
  | .FloorDiv => (0 < j ∧ j.natAbs.log2 < 9000) ∧ K (i / j)
  | .Mod => 0 < j ∧ K (i % j)
  | .Pow => (0 ≤ j ∧ (Builtin.Int.intBits i : Int) * j ≤ 2 ^ 27) ∧ K (i ^ j.toNat)
  | _ => False
def cmp (op : CmpOp) (i j : Int) (K : Bool → Prop) : Prop := match op with
  | .Lt => K (decide (i < j))
  | .LtE => K (decide (i ≤ j))
  | .Gt => K (decide (j < i))
  | .GtE => K (decide (j ≤ i))
  | _ => False
section
variable (ns : List Int) (mx : Int → Int → Int)
def wE : E → Z → (Int → Prop) → Prop
  | .bad, _, _ => False
  | .var i, z, K => ∃ v, z.l[i]? = some (some v) ∧ K v
  | .lit n, _, K => K n
  | .bin op a b, z, K => wE a z fun i => wE b z fun j => bin op i j K
  | .get k, z, K => ∃ v, z.get k = some v ∧ K v
  | .cell e, z, K => z.live = true ∧ wE e z fun i => ∃ v, L2.atI ns i = some v ∧ K v
  | .ncells, z, K => z.live = true ∧ K ns.length
  | .abs e, z, K => wE e z fun i => K (if i < 0 then -i else i)
  | .toi e, z, K => wE e z K
  | .mix a b, z, K => wE a z fun i => wE b z fun j => K (mx i j)
def wT : T → Z → (Bool → Prop) → Prop
  | .bad, _, _ => False
  | .cmp op a b, z, K => wE ns mx a z fun i => wE ns mx b z fun j => cmp op i j K
  | .or a b, z, K => wT a z fun c => (c = true → K true) ∧ (c = false → wT b z K)
structure Ends where
  nx : Z → Prop
  bk : Z → Prop
  rt : Int → Z → Prop
def forN (step : Int → Z → (Z → Prop) → (Z → Prop) → Prop) (K : Z → Prop) : Nat → Int → Z → Prop
  | 0, _, z => K z
  | r + 1, i, z => step i z (forN step K r (i + 1)) K
mutual
def wS : S → Z → Ends → Prop
  | .bad, _, _ => False
  | .set i e, z, D => 0 < i ∧ wE ns mx e z fun v => D.nx { z with l := z.l.set i (some v) }
  | .put k e, z, D => wE ns mx e z fun v => ∃ z', z.put k v = some z' ∧ D.nx z'
  | .aug k op e, z, D => ∃ v, z.get k = some v ∧ wE ns mx e z fun w => (match op with
    | .Add => ∃ z', z.put k (v + w) = some z' ∧ D.nx z'
    | .Sub => ∃ z', z.put k (v - w) = some z' ∧ D.nx z'
    | _ => False)
  | .ifS c a b, z, D => wT ns mx c z fun x => (x = true → wSs a z D) ∧ (x = false → wSs b z D)
  | .for i n b, z, D => (0 < i ∧ 0 ≤ n ∧ n < 2 ^ 62) ∧ forN (fun v z nx bk => wSs b { z with l := z.l.set i (some v) } { nx := nx, bk := bk, rt := D.rt }) D.nx n.toNat 0 z
  | .brk, z, D => D.bk z
  | .ret e, z, D => wE ns mx e z fun v => D.rt v z
def wSs : Ss → Z → Ends → Prop
  | .nil, z, D => D.nx z
  | .cons s ss, z, D => wS s z { D with nx := fun z' => wSs ss z' D }
end
end

/-! ### from the text -/
structure CN where
  N : List Str
  sc : Scope
def CN.ix (c : CN) (x : Str) : Option Nat := if okN x && decide (c.sc.names.lookup x = some .local) then ixOf x c.N else none
def CN.gl (c : CN) (x : Str) : Bool := okN x && decide (c.sc.names.lookup x = some .globalImplicit)
/-- the expression is the store -/
def CN.isSto (c : CN) : Expr → Bool
  | .Name x _ => decide (c.ix x = some 0)
  | _ => false
def keyOf : Expr → Option Str
  | .Constant (.str k) _ _ => some k
  | _ => none
def ce : Nat → CN → Expr → E
  | 0, _, _ => .bad
  | n + 1, c, e => match e with
    | .Name x _ => (match c.ix x with
      | some i => .var i
      | none => .bad)
    | .Constant (.int i) _ _ => .lit i
    | .BinOp a op b _ => .bin op (ce n c a) (ce n c b)
    | .Subscript (.Name x _) (.Constant (.str k) _ _) _ => if c.ix x = some 0 then (match kyOf k with
      | some y => .get y
      | none => .bad) else .bad
    | .Subscript (.Subscript (.Name x _) (.Constant (.str k) _ _) _) i _ => if c.ix x = some 0 ∧ k = ("cells" : Str) ∧ isSlice i = false then .cell (ce n c i) else .bad
    | .Call (.Name f _) [.Subscript (.Name x _) (.Constant (.str k) _ _) _] [] _ => if c.gl f = true ∧ c.ix x = some 0 then (if k = ("cells" : Str) ∧ f = ("len" : Str) then .ncells else (match kyOf k with
      | some y => if f = ("int" : Str) then .toi (.get y) else if f = ("abs" : Str) then .abs (.get y) else .bad
      | none => .bad)) else .bad
    | .Call (.Name f _) [a] [] _ => if c.gl f = true ∧ isStar a = false then (if f = ("int" : Str) then .toi (ce n c a) else if f = ("abs" : Str) then .abs (ce n c a) else .bad) else .bad
    | .Call (.Name f _) [a, b] [] _ => if c.gl f = true ∧ isStar a = false ∧ isStar b = false ∧ f = ("_law_mix" : Str) then .mix (ce n c a) (ce n c b) else .bad
    | _ => .bad
def ct : Nat → CN → Expr → T
  | 0, _, _ => .bad
  | n + 1, c, e => match e with
    | .Compare a [op] [b] _ => if behindInMarks op b then .bad else .cmp op (ce n c a) (ce n c b)
    | .BoolOp .Or [a, b] _ => .or (ct n c a) (ct n c b)
    | .BoolOp .Or [a, b, d] _ => .or (ct n c a) (.or (ct n c b) (ct n c d))
    | _ => .bad
def mapN (f : Stmt → S) : List Stmt → Ss
  | [] => .nil
  | s :: ss => .cons (f s) (mapN f ss)
def cs : Nat → CN → Stmt → S
  | 0, _, _ => .bad
  | n + 1, c, s => match s with
    | .Break _ => .brk
    | .Return (some e) _ => .ret (ce n c e)
    | .Assign [.Name x _] e _ => (match c.ix x, e with
      | some i, .ListComp _ _ _ _ => .bad
      | some i, .SetComp _ _ _ _ => .bad
      | some i, .DictComp _ _ _ _ _ => .bad
      | some i, e => .set i (ce n c e)
      | none, _ => .bad)
    | .Assign [.Subscript (.Name x _) (.Constant (.str k) _ _) _] e _ => (match e with
      | .ListComp _ _ _ _ => .bad
      | .SetComp _ _ _ _ => .bad
      | .DictComp _ _ _ _ _ => .bad
      | e => if c.ix x = some 0 then (match kyOf k with
        | some y => .put y (ce n c e)
        | none => .bad) else .bad)
    | .AugAssign (.Subscript (.Name x _) (.Constant (.str k) _ _) _) op e _ => if c.ix x = some 0 then (match kyOf k with
      | some y => .aug y op (ce n c e)
      | none => .bad) else .bad
    | .If t a b _ => .ifS (ct n c t) (mapN (cs n c) a) (mapN (cs n c) b)
    | .For (.Name x _) (.Call (.Name f _) [.Constant (.int m) _ _] [] _) b [] _ => if c.gl f = true ∧ f = ("range" : Str) then (match c.ix x with
      | some i => .for i m (mapN (cs n c) b)
      | none => .bad) else .bad
    | _ => .bad

/-! ### soundness -/
section
variable {X : Cx}
theorem opN (op : Operator) : OpR X (binaryOp op) (fun x y H Q => ∃ i j, x = .int i ∧ y = .int j ∧ bin op i j fun k => Q (.int k) H) := by
  intro pins s σ H x y v u Q I rx ry h
  obtain ⟨i, j, rfl, rfl, h⟩ := h
  unfold bin at h
  split at h
  · exact op_add pins s σ H _ _ v u Q I rx ry ⟨_, _, rfl, rfl, h⟩
  · exact op_sub pins s σ H _ _ v u Q I rx ry ⟨_, _, rfl, rfl, h⟩
  · exact op_mulG pins s σ H _ _ v u Q I rx ry ⟨_, _, rfl, rfl, h⟩
  · exact op_fdivW pins s σ H _ _ v u Q I rx ry ⟨_, _, rfl, rfl, h⟩
  · exact op_mod pins s σ H _ _ v u Q I rx ry ⟨_, _, rfl, rfl, h⟩
  · exact op_powG pins s σ H _ _ v u Q I rx ry ⟨_, _, rfl, rfl, h⟩
  · exact h.elim
theorem cmpN (op : CmpOp) : OpR X (compareOp op) (fun x y H Q => ∃ i j, x = .int i ∧ y = .int j ∧ cmp op i j fun k => Q (.bl k) H) := by
  intro pins s σ H x y v u Q I rx ry h
  obtain ⟨i, j, rfl, rfl, h⟩ := h
  unfold cmp at h
  split at h
  · exact op_lt pins s σ H _ _ v u Q I rx ry ⟨_, _, rfl, rfl, h⟩
  · exact op_le pins s σ H _ _ v u Q I rx ry ⟨_, _, rfl, rfl, h⟩
  · exact op_gt pins s σ H _ _ v u Q I rx ry ⟨_, _, rfl, rfl, h⟩
  · exact op_ge pins s σ H _ _ v u Q I rx ry ⟨_, _, rfl, rfl, h⟩
  · exact h.elim
end
/-- what _law_mix promises -/
def spMix (mx : Int → Int → Int) : Sp := fun vs H Q _ => ∃ i j, vs = [.int i, .int j] ∧ Q (.int (mx i j)) H
structure NOK (p c : Addr) (ns : List Int) (H0 : Hp) (σ0 : L2.St) (z : Z) (σ : L2.St) (H : Hp) : Prop where
  st : z.live = true → σ[0]? = some (some (.ref p)) ∧ z.l[0]? = some none ∧ H = upd H0 p (.dK (stoL c z.a z.r z.f z.t z.s)) ∧ H0 c = some (.lst (ns.map V.int)) ∧ c ≠ p
  dead : z.live = false → H = H0
  l : ∀ (i : Nat) v, z.l[i]? = some (some v) → σ[i]? = some (some (.int v))
  len : z.l.length = σ.length
  kp : ∀ i : Nat, z.l[i]? = some none → σ[i]? = σ0[i]?
structure NC (mx : Int → Int → Int) (X : Cx) (c : CN) : Prop where
  hN : X.N = c.N
  sc : X.env.scope = c.sc
  nd : X.N.Nodup
  calm : X.calm = true
  po : PassesOwn (model X.prog X.w) X.A X.env X.xe
  un : X.A.units + 1 < cLine
  len : X.mg "len" = none
  int : X.mg "int" = none
  abs : X.mg "abs" = none
  rng : X.mg "range" = none
  mix : c.gl "_law_mix" = true → ∃ lv f fd ps, FnOk X.prog X.w X.K X.mg X.base (L2N.CX X.prog X.w) lv f fd ps (spMix mx) ∧ Room lv X.A ∧ X.mg "_law_mix" = some (.ref f) ∧ PySem.W.keepIn X.K (.ref f) = true ∧ Binds X.K fd ps []
section
variable {p c : Addr} {ns : List Int} {mx : Int → Int → Int} {H0 : Hp} {σ0 : L2.St}
theorem NOK.get {z : Z} {σ : L2.St} {H : Hp} (O : NOK p c ns H0 σ0 z σ H) {k : Ky} {v : Int} (h : z.get k = some v) : σ[0]? = some (some (.ref p)) ∧ DGet H p (.str k.str) (some (.int v)) := by
  unfold Z.get at h
  cases hl : z.live with
  | false => rw [hl] at h; cases h
  | true =>
    rw [hl] at h
    obtain ⟨e0, _, e1, _, _⟩ := O.st hl
    refine ⟨e0, ?_⟩
    have key : DGet H p (.str k.str) (valV (stoL c z.a z.r z.f z.t z.s) (.inr k.str)) := DGet.k (k := .inr k.str) (by rw [e1, upd_same])
    cases k <;> (cases h; exact key)
theorem upd_upd {H : Hp} {a : Addr} {o u : HO} : upd (upd H a o) a u = upd H a u := by
  funext b
  by_cases h : b = a
  · subst h; rw [upd_same, upd_same]
  · rw [upd_ne h, upd_ne h, upd_ne h]
theorem NOK.put {z z' : Z} {σ : L2.St} {H : Hp} (O : NOK p c ns H0 σ0 z σ H) {k : Ky} {v : Int} (h : z.put k v = some z') : σ[0]? = some (some (.ref p)) ∧ ∃ H', DPut H p (.str k.str) (.int v) H' ∧ NOK p c ns H0 σ0 z' σ H' := by
  unfold Z.put at h
  cases hl' : z.live with
  | false => rw [hl'] at h; cases h
  | true =>
    rw [hl'] at h
    obtain ⟨e0, e00, e1, e2, e3⟩ := O.st hl'
    refine ⟨e0, _, DPut.k (k := .inr k.str) (kvs := stoL c z.a z.r z.f z.t z.s) (by rw [e1, upd_same]) (by rw [sizeLine_eq]; show 6 < 16777216; decide), ?_⟩
    have fin : ∀ z2 : Z, z2.live = z.live → z2.l = z.l → putK (stoL c z.a z.r z.f z.t z.s) (.inr k.str) (.int v) = stoL c z2.a z2.r z2.f z2.t z2.s → NOK p c ns H0 σ0 z2 σ (upd H p (.dK (putK (stoL c z.a z.r z.f z.t z.s) (.inr k.str) (.int v)))) := fun z2 h1 h2 h3 => by
      rw [h3, e1, upd_upd]
      exact ⟨fun _ => ⟨e0, by rw [h2]; exact e00, rfl, e2, e3⟩, (fun hd => by rw [h1, hl'] at hd; cases hd), fun i v hv => O.l i v (by rw [← h2]; exact hv), by rw [h2]; exact O.len, fun i hi => O.kp i (by rw [← h2]; exact hi)⟩
    cases k <;> first | (cases h; exact fin _ hl'.symm rfl rfl) | cases h
theorem NOK.set {z : Z} {σ : L2.St} {H : Hp} (O : NOK p c ns H0 σ0 z σ H) {i : Nat} {v : Int} (hi : 0 < i) : NOK p c ns H0 σ0 { z with l := z.l.set i (some v) } (σ.set i (some (.int v))) H where
  st := fun hl => by
    obtain ⟨e0, e00, e1, e2, e3⟩ := O.st hl
    have : i ≠ 0 := by omega
    exact ⟨by rw [List.getElem?_set_ne this]; exact e0, by show (z.l.set i (some v))[0]? = _; rw [List.getElem?_set_ne this]; exact e00, e1, e2, e3⟩
  dead := O.dead
  l := fun j w h => by
    have h : (z.l.set i (some v))[j]? = some (some w) := h
    by_cases e : i = j
    · subst e
      by_cases hl : i < z.l.length
      · rw [List.getElem?_set_self hl] at h
        cases h
        rw [List.getElem?_set_self (by rw [← O.len]; exact hl)]
      · rw [List.getElem?_eq_none (by simpa using hl)] at h
        cases h
    · rw [List.getElem?_set_ne e] at h ⊢
      exact O.l j w h
  len := by
    show (z.l.set i (some v)).length = _
    rw [List.length_set, List.length_set]
    exact O.len
  kp := fun j h => by
    have h : (z.l.set i (some v))[j]? = some none := h
    by_cases e : i = j
    · subst e
      by_cases hl : i < z.l.length
      · rw [List.getElem?_set_self hl] at h; cases h
      · rw [List.getElem?_eq_none (by simpa using hl)] at h; cases h
    · rw [List.getElem?_set_ne e] at h ⊢
      exact O.kp j h
variable (p c ns mx H0 σ0) in
def tE (e : E) : TE := fun σ H Q => ∃ z K, NOK p c ns H0 σ0 z σ H ∧ wE ns mx e z K ∧ ∀ i, K i → Q (.int i) H
variable (p c ns mx H0 σ0) in
def tT (e : T) : TT := fun σ H Q => ∃ z K, NOK p c ns H0 σ0 z σ H ∧ wT ns mx e z K ∧ ∀ b, K b → Q b H
structure EOK (p c : Addr) (ns : List Int) (H0 : Hp) (σ0 : L2.St) (Dz : Ends) (D : L2.Ends) : Prop where
  nx : ∀ σ H z, NOK p c ns H0 σ0 z σ H → Dz.nx z → D.nx σ H
  bk : ∀ σ H z, NOK p c ns H0 σ0 z σ H → Dz.bk z → D.bk σ H
  rt : ∀ σ H z v, NOK p c ns H0 σ0 z σ H → Dz.rt v z → D.rt (.int v) H
variable (p c ns mx H0 σ0) in
def tS (s : S) : TS := fun D σ H => ∃ z Dz, NOK p c ns H0 σ0 z σ H ∧ wS ns mx s z Dz ∧ EOK p c ns H0 σ0 Dz D
variable (p c ns mx H0 σ0) in
def tSs (s : Ss) : TS := fun D σ H => ∃ z Dz, NOK p c ns H0 σ0 z σ H ∧ wSs ns mx s z Dz ∧ EOK p c ns H0 σ0 Dz D
variable {X : Cx} {cn : CN}
theorem ebad {e : Expr} : PE X e (tE p c ns mx H0 σ0 .bad) := ⟨fun pins s σ H Q I q => by
  obtain ⟨z, _, _, h, _⟩ := q
  unfold wE at h
  exact h.elim⟩
theorem CN.ix_ok {x : Str} {i : Nat} (cx : NC mx X cn) (h : cn.ix x = some i) : X.N[i]? = some x ∧ X.env.scope.names.lookup x = some .local ∧ okN x = true := by
  unfold CN.ix at h
  split at h
  · rename_i h1
    rw [Bool.and_eq_true, decide_eq_true_eq] at h1
    rw [cx.hN, cx.sc]
    exact ⟨ixOf_ok h, h1.2, h1.1⟩
  · cases h
theorem CN.gl_ok {x : Str} (cx : NC mx X cn) (h : cn.gl x = true) : Gl X x ∧ (x == ("__debug__" : Str)) = false := by
  unfold CN.gl at h
  rw [Bool.and_eq_true, decide_eq_true_eq] at h
  refine ⟨?_, (okN_ok h.1).1⟩
  show X.env.kindOf x = some .globalImplicit
  unfold Env.kindOf
  rw [cx.sc]
  exact h.2
theorem pvar (cx : NC mx X cn) {x : Str} {i : Nat} {pos : Pos} (h : cn.ix x = some i) : PE X (.Name x pos) (tVar i) := by
  obtain ⟨h1, h2, h3⟩ := CN.ix_ok cx h
  exact pe_var h1 (.inl h2) (okN_ok h3).1 (okN_ok h3).2
theorem e_get (cx : NC mx X cn) {x k : Str} {y : Ky} {p1 p2 p3 : Pos} {j : Nat} (h : cn.ix x = some 0) (hy : kyOf k = some y) : PE X (.Subscript (.Name x p1) (.Constant (.str k) j p2) p3) (tE p c ns mx H0 σ0 (.get y)) := by
  rw [kyOf_ok hy]
  refine pe_imp (pe_dget cx.un (pvar cx h) pe_str (fun _ _ => rfl)) ?_
  rintro σ H Q ⟨z, K, O, hw, g⟩
  unfold wE at hw
  obtain ⟨v, hv, hk⟩ := hw
  obtain ⟨e0, gd⟩ := O.get hv
  exact ⟨.ref p, e0, p, _, rfl, gd, g v hk⟩
theorem e_cells (cx : NC mx X cn) {x : Str} {p1 p2 p3 : Pos} {j : Nat} (h : cn.ix x = some 0) : PE X (.Subscript (.Name x p1) (.Constant (.str "cells") j p2) p3) (fun σ H Q => ∃ z, NOK p c ns H0 σ0 z σ H ∧ z.live = true ∧ Q (.ref c) H) := by
  refine pe_imp (pe_dget cx.un (pvar cx h) pe_str (fun _ _ => rfl)) ?_
  rintro σ H Q ⟨z, O, hl, hk⟩
  obtain ⟨e0, e00, e1, e2, e3⟩ := O.st hl
  exact ⟨.ref p, e0, p, _, rfl, DGet.k (k := .inr "cells") (kvs := stoL c z.a z.r z.f z.t z.s) (by rw [e1, upd_same]), hk⟩
theorem e_abs (cx : NC mx X cn) {a : Expr} {va : E} {p1 pos : Pos} (h : cn.gl "abs" = true) (hs : isStar a = false) (ha : PE X a (tE p c ns mx H0 σ0 va)) : PE X (.Call (.Name "abs" p1) [a] [] pos) (tE p c ns mx H0 σ0 (.abs va)) := by
  obtain ⟨g1, g2⟩ := CN.gl_ok cx h
  refine pe_imp (pe_callB call_abs g1 cx.abs boot_abs (pa_cons ha pa_nil (star_cons hs)) (by decide) g2 (star_cons hs) (by rw [back_any]; rfl)) ?_
  rintro σ H Q ⟨z, K, O, hw, g⟩
  unfold wE at hw
  exact ⟨z, _, O, hw, fun i hk => ⟨i, rfl, g _ hk⟩⟩
theorem e_toi (cx : NC mx X cn) {a : Expr} {va : E} {p1 pos : Pos} (h : cn.gl "int" = true) (hs : isStar a = false) (ha : PE X a (tE p c ns mx H0 σ0 va)) : PE X (.Call (.Name "int" p1) [a] [] pos) (tE p c ns mx H0 σ0 (.toi va)) := by
  obtain ⟨g1, g2⟩ := CN.gl_ok cx h
  refine pe_imp (pe_callTy call_int1 g1 cx.int (by decide +kernel) (pa_cons ha pa_nil (star_cons hs)) (by decide) g2 (star_cons hs) (by rw [back_any]; rfl)) ?_
  rintro σ H Q ⟨z, K, O, hw, g⟩
  unfold wE at hw
  exact ⟨z, _, O, hw, fun i hk => .inl ⟨i, rfl, g _ hk⟩⟩
theorem e_mix (cx : NC mx X cn) {a b : Expr} {va vb : E} {p1 pos : Pos} (h : cn.gl "_law_mix" = true) (hs : isStar a = false) (hs2 : isStar b = false) (ha : PE X a (tE p c ns mx H0 σ0 va)) (hb : PE X b (tE p c ns mx H0 σ0 vb)) :
    PE X (.Call (.Name "_law_mix" p1) [a, b] [] pos) (tE p c ns mx H0 σ0 (.mix va vb)) := by
  obtain ⟨g1, g2⟩ := CN.gl_ok cx h
  obtain ⟨lv, f, fd, ps, F, hr, hm, hk, hbi⟩ := cx.mix h
  refine pe_imp (pe_callS (E := fun _ _ _ _ => False) F hr g1 hm hk hbi (fun σ pins H s e s' I cc => (passN (X := X)) pins σ H s e s' I cc) (pa_cons ha (pa_cons hb pa_nil (star_cons hs2)) (star_cons hs)) g2 (star_cons hs) (by rw [back_any, star_cons hs2]; rfl)) ?_
  rintro σ H Q ⟨z, K, O, hw, g⟩
  unfold wE at hw
  exact ⟨z, _, O, hw, fun i hk => ⟨z, _, O, hk, fun j hk => ⟨i, j, rfl, g _ hk⟩⟩⟩
theorem bin_mono {op : Operator} {i j : Int} {K K' : Int → Prop} (g : ∀ i, K i → K' i) (h : bin op i j K) : bin op i j K' := by
  unfold bin at h ⊢
  split at h <;> first | exact g _ h | exact ⟨h.1, g _ h.2⟩ | exact h
theorem cmp_mono {op : CmpOp} {i j : Int} {K K' : Bool → Prop} (g : ∀ i, K i → K' i) (h : cmp op i j K) : cmp op i j K' := by
  unfold cmp at h ⊢
  split at h <;> first | exact g _ h | exact h
theorem e_bin {a b : Expr} {op : Operator} {va vb : E} {pos : Pos} (ha : PE X a (tE p c ns mx H0 σ0 va)) (hb : PE X b (tE p c ns mx H0 σ0 vb)) : PE X (.BinOp a op b pos) (tE p c ns mx H0 σ0 (.bin op va vb)) := by
  refine pe_imp (pe_op (opN op) ha hb) ?_
  rintro σ H Q ⟨z, K, O, hw, g⟩
  unfold wE at hw
  exact ⟨z, _, O, hw, fun i hk => ⟨z, _, O, hk, fun j hk => ⟨i, j, rfl, rfl, bin_mono (fun k hk => g k hk) hk⟩⟩⟩
theorem e_ncells (cx : NC mx X cn) {x : Str} {p0 p1 p2 p3 pos : Pos} {j : Nat} (h : cn.gl "len" = true) (hx : cn.ix x = some 0) : PE X (.Call (.Name "len" p0) [.Subscript (.Name x p1) (.Constant (.str "cells") j p2) p3] [] pos) (tE p c ns mx H0 σ0 .ncells) := by
  obtain ⟨g1, g2⟩ := CN.gl_ok cx h
  refine pe_imp (pe_callB call_len_seq g1 cx.len boot_len (pa_cons (e_cells (p := p) (c := c) (ns := ns) (H0 := H0) (σ0 := σ0) cx hx) pa_nil rfl) (by decide) g2 rfl (by rw [back_any]; rfl)) ?_
  rintro σ H Q ⟨z, K, O, hw, g⟩
  unfold wE at hw
  obtain ⟨e0, e00, e1, e2, e3⟩ := O.st hw.1
  refine ⟨z, O, hw.1, c, _, rfl, .inl (.of (by rw [e1, upd_ne e3]; exact e2)), ?_⟩
  rw [List.length_map]
  exact g _ hw.2
theorem e_cell (cx : NC mx X cn) {x : Str} {i : Expr} {vi : E} {p1 p2 p3 pos : Pos} {j : Nat} (hx : cn.ix x = some 0) (hs : isSlice i = false) (hi : PE X i (tE p c ns mx H0 σ0 vi)) : PE X (.Subscript (.Subscript (.Name x p1) (.Constant (.str "cells") j p2) p3) i pos) (tE p c ns mx H0 σ0 (.cell vi)) := by
  refine pe_imp (pe_ix ix_list (e_cells (p := p) (c := c) (ns := ns) (H0 := H0) (σ0 := σ0) cx hx) hi (slice_plain hs)) ?_
  rintro σ H Q ⟨z, K, O, hw, g⟩
  unfold wE at hw
  obtain ⟨hl, hw⟩ := hw
  obtain ⟨e0, e00, e1, e2, e3⟩ := O.st hl
  refine ⟨z, O, hl, z, _, O, hw, fun i hk => ?_⟩
  obtain ⟨v, hv, hk⟩ := hk
  refine ⟨c, ns.map V.int, i, .int v, rfl, rfl, .of (by rw [e1, upd_ne e3]; exact e2), ?_, g _ hk⟩
  unfold L2.atI at hv ⊢
  rw [List.length_map]
  cases q : L2.ixN ns.length i with
  | none => rw [q] at hv; cases hv
  | some m =>
    rw [q] at hv
    show (ns.map V.int)[m]? = _
    have hv : ns[m]? = some v := hv
    rw [List.getElem?_map, hv] <;> rfl
theorem e_all (cx : NC mx X cn) : ∀ (n : Nat) (e : Expr), PE X e (tE p c ns mx H0 σ0 (ce n cn e))
  | 0, e => by unfold ce; exact ebad
  | n + 1, e => by
    have ih := e_all cx n
    unfold ce
    split
    · split
      · rename_i h
        refine pe_imp (pvar cx h) ?_
        rintro σ H Q ⟨z, K, O, hw, g⟩
        unfold wE at hw
        obtain ⟨v, hv, hk⟩ := hw
        exact ⟨_, O.l _ _ hv, g _ hk⟩
      · exact ebad
    · refine pe_imp pe_int ?_
      rintro σ H Q ⟨z, K, O, hw, g⟩
      unfold wE at hw
      exact g _ hw
    · exact e_bin (ih _) (ih _)
    · split
      · split
        · exact e_get cx ‹_› ‹_›
        · exact ebad
      · exact ebad
    · split
      · rename_i h
        obtain ⟨h1, h2, h3⟩ := h
        subst h2
        exact e_cell cx h1 h3 (ih _)
      · exact ebad
    · split
      · rename_i h
        obtain ⟨h1, h2⟩ := h
        split
        · rename_i h
          obtain ⟨h3, h4⟩ := h
          subst h3 h4
          exact e_ncells cx h1 h2
        · split
          · split
            · rename_i hy h; subst h; exact e_toi cx h1 rfl (e_get cx h2 hy)
            · split
              · rename_i hy _ h; subst h; exact e_abs cx h1 rfl (e_get cx h2 hy)
              · exact ebad
          · exact ebad
      · exact ebad
    · split
      · rename_i h
        split
        · rename_i h2; subst h2; exact e_toi cx h.1 h.2 (ih _)
        · split
          · rename_i h2; subst h2; exact e_abs cx h.1 h.2 (ih _)
          · exact ebad
      · exact ebad
    · split
      · rename_i h
        obtain ⟨h1, h2, h3, h4⟩ := h
        subst h4
        exact e_mix cx h1 h2 h3 (ih _) (ih _)
      · exact ebad
    · exact ebad
theorem tbad {e : Expr} : PT X e (tT p c ns mx H0 σ0 .bad) := ⟨fun pins s σ H Q I q => by
  obtain ⟨z, _, _, h, _⟩ := q
  unfold wT at h
  exact h.elim⟩
theorem t_all (cx : NC mx X cn) : ∀ (n : Nat) (e : Expr), PT X e (tT p c ns mx H0 σ0 (ct n cn e))
  | 0, e => by unfold ct; exact tbad
  | n + 1, e => by
    have ih := t_all cx n
    have or1 : ∀ {a : Expr} {as : List Expr} {pos : Pos} {va vb : T}, PT X a (tT p c ns mx H0 σ0 va) → PW X (.BoolOp .Or as pos) (tT p c ns mx H0 σ0 vb) → as ≠ [] → PW X (.BoolOp .Or (a :: as) pos) (tT p c ns mx H0 σ0 (.or va vb)) := by
      intro a as pos va vb ha hb hne
      cases as with
      | nil => exact absurd rfl hne
      | cons b r =>
        refine pw_imp (pw_or ha hb) ?_
        rintro σ H Q ⟨z, K, O, hw, g⟩
        unfold wT at hw
        refine ⟨z, _, O, hw, fun d hk => ?_⟩
        cases d with
        | true => rw [if_pos rfl]; exact g _ (hk.1 rfl)
        | false => rw [if_neg Bool.false_ne_true]; exact ⟨z, K, O, hk.2 rfl, g⟩
    unfold ct
    split
    · split
      · exact tbad
      · rename_i h
        refine pt_imp (pt_cmpR (cmpN _) (e_all (p := p) (c := c) (ns := ns) (H0 := H0) (σ0 := σ0) cx n _) (e_all (p := p) (c := c) (ns := ns) (H0 := H0) (σ0 := σ0) cx n _) (by simpa using h)) ?_
        rintro σ H Q ⟨z, K, O, hw, g⟩
        unfold wT at hw
        exact ⟨z, _, O, hw, fun i hk => ⟨z, _, O, hk, fun j hk => ⟨i, j, rfl, rfl, cmp_mono (fun b hb => ⟨b, rfl, g _ hb⟩) hk⟩⟩⟩
    · exact (or1 (ih _) (pw_or1 (ih _)) (by simp)).pt
    · exact (or1 (ih _) (or1 (ih _) (pw_or1 (ih _)) (by simp)) (by simp)).pt
    · exact tbad

theorem sbad {s : Stmt} : PS X s (tS p c ns mx H0 σ0 .bad) := ⟨fun pins st σ H D I q => by
  obtain ⟨z, _, _, h, _⟩ := q
  unfold wS at h
  exact h.elim⟩
theorem s_list {f : Stmt → S} (h : ∀ s, PS X s (tS p c ns mx H0 σ0 (f s))) : ∀ ss : List Stmt, PSs X ss (tSs p c ns mx H0 σ0 (mapN f ss))
  | [] => by
    refine pss_imp pss_nil ?_
    rintro D σ H ⟨z, Dz, O, hw, g⟩
    unfold mapN wSs at hw
    exact g.nx _ _ _ O hw
  | s :: ss => by
    refine pss_imp (pss_cons (h s) (s_list h ss)) ?_
    rintro D σ H ⟨z, Dz, O, hw, g⟩
    unfold mapN wSs at hw
    exact ⟨z, _, O, hw, ⟨fun σ' H' z' O' hk => ⟨z', Dz, O', hk, g⟩, g.bk, g.rt⟩⟩
theorem s_set (cx : NC mx X cn) {x : Str} {i : Nat} {e : Expr} {ve : E} {p1 pos : Pos} (hi : cn.ix x = some i) (h : PE X e (tE p c ns mx H0 σ0 ve)) (hsw : swapsWith e (some (.Name x p1)) pos.line X.env = pure false) : PS X (.Assign [.Name x p1] e pos) (tS p c ns mx H0 σ0 (.set i ve)) := by
  obtain ⟨h1, h2, h3⟩ := CN.ix_ok cx hi
  refine ps_imp (ps_set cx.nd h1 (.inl h2) h hsw (.inr h2)) ?_
  rintro D σ H ⟨z, Dz, O, hw, g⟩
  unfold wS at hw
  exact ⟨z, _, O, hw.2, fun v hk => g.nx _ _ _ (O.set hw.1) hk⟩
theorem s_put (cx : NC mx X cn) {x k : Str} {y : Ky} {e : Expr} {ve : E} {p1 p2 p3 pos : Pos} {j : Nat} (hi : cn.ix x = some 0) (hy : kyOf k = some y) (h : PE X e (tE p c ns mx H0 σ0 ve)) (hsw : swapsWith e (some (.Subscript (.Name x p1) (.Constant (.str k) j p2) p3)) pos.line X.env = pure false) :
    PS X (.Assign [.Subscript (.Name x p1) (.Constant (.str k) j p2) p3] e pos) (tS p c ns mx H0 σ0 (.put y ve)) := by
  have hk := kyOf_ok hy
  subst hk
  refine ps_imp (ps_asg h (pg_sub (pvar cx hi) pe_str (set_dict cx.un)) hsw rfl) ?_
  rintro D σ H ⟨z, Dz, O, hw, g⟩
  unfold wS at hw
  refine ⟨z, _, O, hw, fun v hk => ?_⟩
  obtain ⟨z', hz, hk⟩ := hk
  obtain ⟨e0, H', hp, O'⟩ := O.put hz
  exact ⟨.ref p, e0, p, H', rfl, hp, g.nx _ _ _ O' hk⟩
theorem s_aug (cx : NC mx X cn) {x k : Str} {y : Ky} {op : Operator} {e : Expr} {ve : E} {p1 p2 p3 pos : Pos} {j : Nat} (hi : cn.ix x = some 0) (hy : kyOf k = some y) (h : PE X e (tE p c ns mx H0 σ0 ve)) :
    PS X (.AugAssign (.Subscript (.Name x p1) (.Constant (.str k) j p2) p3) op e pos) (tS p c ns mx H0 σ0 (.aug y op ve)) := by
  have hk := kyOf_ok hy
  subst hk
  have fin : ∀ {rd : V → V → Hp → VK → Prop}, InOp X op rd → (∀ (z : Z) (σ : L2.St) (H : Hp) (v w : Int) (Dz : Ends) (D : L2.Ends), NOK p c ns H0 σ0 z σ H → EOK p c ns H0 σ0 Dz D → (match op with
    | .Add => ∃ z', z.put y (v + w) = some z' ∧ Dz.nx z'
    | .Sub => ∃ z', z.put y (v - w) = some z' ∧ Dz.nx z'
    | _ => False) → rd (.int v) (.int w) H fun z H4 => ∃ H5, DPut H4 p (.str y.str) z H5 ∧ D.nx σ H5) → PS X (.AugAssign (.Subscript (.Name x p1) (.Constant (.str y.str) j p2) p3) op e pos) (tS p c ns mx H0 σ0 (.aug y op ve)) := fun hop hh => by
    refine ps_imp (ps_daug cx.un (pvar cx hi) pe_str h hop (fun _ _ _ => rfl)) ?_
    rintro D σ H ⟨z, Dz, O, hw, g⟩
    unfold wS at hw
    obtain ⟨v, hv, hw⟩ := hw
    obtain ⟨e0, gd⟩ := O.get hv
    exact ⟨.ref p, e0, p, _, rfl, gd, z, _, O, hw, fun w hk => hh z σ H v w Dz D O g hk⟩
  have no : InOp X op (fun _ _ _ _ => False) := fun _ _ _ _ _ _ _ _ _ _ _ _ z => z.elim
  cases op with
  | Add =>
    refine fin in_add fun z σ H v w Dz D O g hq => ?_
    obtain ⟨z', hz, hk⟩ := hq
    obtain ⟨e0, H', hp, O'⟩ := O.put hz
    exact ⟨v, w, rfl, rfl, H', hp, g.nx _ _ _ O' hk⟩
  | Sub =>
    refine fin in_sub fun z σ H v w Dz D O g hq => ?_
    obtain ⟨z', hz, hk⟩ := hq
    obtain ⟨e0, H', hp, O'⟩ := O.put hz
    exact ⟨v, w, rfl, rfl, H', hp, g.nx _ _ _ O' hk⟩
  | _ => exact fin no fun z σ H v w Dz D O g h => h.elim
theorem s_for (cx : NC mx X cn) {x : Str} {i j : Nat} {m : Int} {b : List Stmt} {vb : Ss} {p1 p2 p3 p4 pos : Pos} (hg : cn.gl "range" = true) (hi : cn.ix x = some i) (hb : PSs X b (tSs p c ns mx H0 σ0 vb)) :
    PS X (.For (.Name x p1) (.Call (.Name "range" p2) [.Constant (.int m) j p3] [] p4) b [] pos) (tS p c ns mx H0 σ0 (.for i m vb)) := by
  obtain ⟨h1, h2, h3⟩ := CN.ix_ok cx hi
  obtain ⟨g1, g2⟩ := CN.gl_ok cx hg
  refine ps_imp (ps_for cx.po cx.calm (pi_range1 g1 cx.rng (pa_cons pe_int pa_nil rfl) rfl) (pg_name cx.nd h1 (.inl h2) (.inr h2)) hb (fun _ => rfl)) ?_
  rintro D σ H ⟨z, Dz, O, hw, g⟩
  unfold wS at hw
  obtain ⟨⟨w1, w2, w3⟩, hw⟩ := hw
  refine ⟨m, rfl, by omega, by omega, ?_⟩
  generalize hst : (fun v z nx bk => wSs ns mx vb { z with l := z.l.set i (some v) } { nx := nx, bk := bk, rt := Dz.rt } : Int → Z → (Z → Prop) → (Z → Prop) → Prop) = step at hw
  refine ⟨fun k n σ H => n = m.toNat - k ∧ k ≤ m.toNat ∧ ∃ z, NOK p c ns H0 σ0 z σ H ∧ forN step Dz.nx (m.toNat - k) (k : Nat) z, ⟨m.toNat, by simp, Nat.zero_le _, z, O, hw⟩, ?_⟩
  rintro k n σ2 H2 ⟨rfl, hle, z2, O2, hk2⟩
  by_cases hlt : k < m.toNat
  · obtain ⟨r, hr⟩ : ∃ r, m.toNat - k = r + 1 := ⟨m.toNat - k - 1, by omega⟩
    rw [hr] at hk2
    have hk2 : step (k : Nat) z2 (forN step Dz.nx r ((k : Nat) + 1)) Dz.nx := hk2
    rw [← hst] at hk2
    refine .inr ⟨hlt, fun σ' H' => ∃ z', NOK p c ns H0 σ0 z' σ' H' ∧ forN step Dz.nx r ((k : Nat) + 1) z', fun σ' H' ⟨z', O', h'⟩ => ⟨m.toNat - (k + 1), by omega, rfl, hlt, z', O', ?_⟩, fun x' H' hy => ?_⟩
    · have e : m.toNat - (k + 1) = r := by omega
      rw [e]
      exact h'
    · obtain ⟨rfl, rfl⟩ := hy
      have e : (0 : Int) + (k : Nat) = (k : Nat) := by omega
      rw [e]
      exact ⟨_, _, O2.set (v := (k : Nat)) w1, hk2, ⟨fun σ' H' z' O' hk => ⟨z', O', by subst hst; exact hk⟩, fun σ' H' z' O' hk => g.nx _ _ _ O' hk, g.rt⟩⟩
  · have e : m.toNat - k = 0 := by omega
    rw [e] at hk2
    exact .inl ⟨Nat.le_of_sub_eq_zero e, g.nx _ _ _ O2 hk2⟩

theorem s_all (cx : NC mx X cn) : ∀ (n : Nat) (s : Stmt), PS X s (tS p c ns mx H0 σ0 (cs n cn s))
  | 0, s => by unfold cs; exact sbad
  | n + 1, s => by
    have ih := s_all cx n
    have hE : ∀ e, PE X e (tE p c ns mx H0 σ0 (ce n cn e)) := e_all cx n
    unfold cs
    split
    · refine ps_imp ps_break ?_
      rintro D σ H ⟨z, Dz, O, hw, g⟩
      unfold wS at hw
      exact g.bk _ _ _ O hw
    · refine ps_imp (ps_ret (hE _)) ?_
      rintro D σ H ⟨z, Dz, O, hw, g⟩
      unfold wS at hw
      exact ⟨z, _, O, hw, fun v hk => g.rt _ _ _ v O hk⟩
    · split
      · exact sbad
      · exact sbad
      · exact sbad
      · rename_i i hi h1 h2 h3
        exact s_set cx hi (hE _) (swaps_plain (fun a b c d z => h1 _ _ _ _ z) (fun a b c d z => h2 _ _ _ _ z) (fun a b c d f z => h3 _ _ _ _ _ z))
      · exact sbad
    · split
      · exact sbad
      · exact sbad
      · exact sbad
      · rename_i h1 h2 h3
        split
        · split
          · exact s_put cx ‹_› ‹_› (hE _) (swaps_plain (fun a b c d z => h1 _ _ _ _ z) (fun a b c d z => h2 _ _ _ _ z) (fun a b c d f z => h3 _ _ _ _ _ z))
          · exact sbad
        · exact sbad
    · split
      · split
        · exact s_aug cx ‹_› ‹_› (hE _)
        · exact sbad
      · exact sbad
    · refine ps_imp (ps_if (t_all (p := p) (c := c) (ns := ns) (H0 := H0) (σ0 := σ0) cx n _) (s_list ih _) (s_list ih _)) ?_
      rintro D σ H ⟨z, Dz, O, hw, g⟩
      unfold wS at hw
      refine ⟨z, _, O, hw, fun b hk => ?_⟩
      cases b with
      | true => exact L2.iteT ⟨z, Dz, O, hk.1 rfl, g⟩
      | false => exact L2.iteF ⟨z, Dz, O, hk.2 rfl, g⟩
    · split
      · rename_i h
        obtain ⟨h1, h2⟩ := h
        subst h2
        split
        · exact s_for cx h1 ‹_› (s_list ih _)
        · exact sbad
      · exact sbad
    · exact sbad
end
/-- a def of numbers -/
theorem fn_nl {mx : Int → Int → Int} {P : Program} {w : World} {K : PySem.W.Frag} {mg : Str → Option Value} {base : Heap} {cn : CN} {lv n : Nat} {x qual : Str} {params : Arguments} {body : List Stmt} {f : Addr} {fd : FuncData} {ps : List Str} {ir : Ss} {sp : Sp}
    (F : FunD K x qual params body cn.sc [] [] f fd) (Sc : FnScope cn.N ps cn.sc) (hlen : mg "len" = none) (hint : mg "int" = none) (habs : mg "abs" = none) (hrng : mg "range" = none)
    (hmix : cn.gl "_law_mix" = true → ∃ f fd ps, FnOk P w K mg base (L2N.CX P w) lv f fd ps (spMix mx) ∧ mg "_law_mix" = some (.ref f) ∧ PySem.W.keepIn K (.ref f) = true ∧ Binds K fd ps [])
    (hir : mapN (cs n cn) body = ir) (len : ∀ vs H Q E, sp vs H Q E → vs.length = ps.length)
    (hval : ∀ vs H Q E, sp vs H Q E → ∃ (p c : Addr) (ns : List Int) (z : Z) (Dz : Ends), NOK p c ns H (L2.start cn.N vs) z (L2.start cn.N vs) H ∧ wSs ns mx ir z Dz ∧ (∀ σ' H' z' v, NOK p c ns H (L2.start cn.N vs) z' σ' H' → Dz.rt v z' → Q (.int v) H') ∧ (∀ z, ¬ Dz.nx z) ∧ ∀ z, ¬ Dz.bk z) :
    FnOk P w K mg base (L2N.CX P w) (lv + 1) f fd ps sp := by
  refine F.ok Sc len (fun cdv A outer s H vs Q E hr h => ?_)
  obtain ⟨p, c, ns, z, Dz, O, hw, hrt, hnx, hbk⟩ := hval vs H Q E h
  have cx : NC mx (cxOf (L2N.CX P w) P w K mg base cn.N qual cn.sc f cdv A outer s H E) cn := {
    hN := rfl
    sc := rfl
    nd := Sc.nd
    calm := rfl
    po := passes_of (K := fun e s' => L2N.CX P w outer H s E e s') rfl
    un := by have := hr.un; show (A.deeper _).units + 1 < cLine; omega
    len := hlen
    int := hint
    abs := habs
    rng := hrng
    mix := fun hg => by
      obtain ⟨g, gd, qs, G, g1, g2, g3⟩ := hmix hg
      exact ⟨lv, g, gd, qs, G, hr, g1, g2, g3⟩ }
  refine ⟨tSs p c ns mx H (L2.start cn.N vs) (mapN (cs n cn) body), s_list (fun s => s_all cx n s) body, ?_⟩
  rw [hir]
  exact ⟨z, Dz, O, hw, ⟨fun σ' H' z' O' hk => (hnx _ hk).elim, fun σ' H' z' O' hk => (hbk _ hk).elim, fun σ' H' z' v O' hk => hrt σ' H' z' v O' hk⟩⟩
end NL
end VL
set_option maxHeartbeats 4000000
/-! VLq: the defs of the store. -/
namespace VL
open PySem PySem.Spec PyProof.Rows L2
namespace NL
/-- _law_mix: ['cell', 'turn', 'low', 'one', 'two'] -/
def ir_law_mix : Ss := (.cons (.set 2 (.bin .Mod (.toi (.var 0)) (.lit 2147483647)))
  (.cons (.set 3 (.bin .Mod (.toi (.bin .Add (.bin .Add (.bin .Mult (.var 2) (.lit 48271)) (.bin .Mult (.var 1) (.lit 69621))) (.lit 12820163))) (.lit 2147483629)))
  (.cons (.set 4 (.bin .Mod (.toi (.bin .Add (.bin .Add (.bin .Add (.bin .Mult (.var 3) (.var 3)) (.bin .Mult (.var 3) (.lit 40692))) (.bin .Mult (.var 1) (.lit 7919))) (.lit 374761))) (.lit 2147483587)))
  (.cons (.ret (.bin .Mod (.toi (.bin .Add (.bin .Mult (.var 4) (.bin .Add (.bin .FloorDiv (.var 4) (.lit 32768)) (.lit 3))) (.bin .FloorDiv (.var 3) (.lit 7)))) (.lit 2147483563)))
  .nil))))
def takeBody : Ss := (.cons (.ifS (.or (.cmp .Gt (.get .rest) (.lit 0)) (.or (.cmp .Gt (.get .left) (.lit 0)) (.cmp .GtE (.get .at) .ncells))) (.cons .brk
  .nil) .nil)
  (.cons (.set 3 (.abs (.cell (.get .at))))
  (.cons (.aug .at .Add (.lit 1))
  (.cons (.ifS (.cmp .Lt (.var 3) (.bin .Pow (.lit 10) (.lit 18))) (.cons (.put .left (.lit 3))
  .nil) (.cons (.put .rest (.bin .Mod (.toi (.var 3)) (.bin .Pow (.bin .Pow (.lit 10) (.lit 60)) (.lit 14))))
  .nil))
  .nil))))
def takeSeven : Ss := (.cons (.set 6 (.bin .Add (.bin .Mult (.var 6) (.lit 2147483563)) (.mix (.var 5) (.bin .Add (.get .turn) (.bin .Mult (.lit 1000) (.bin .Add (.var 2) (.lit 1)))))))
  .nil)
def takeEnd : Ss := (.cons (.set 6 (.mix (.var 5) (.get .turn)))
  (.cons (.ifS (.cmp .Gt (.var 1) (.bin .Pow (.lit 10) (.lit 6))) (.cons (.for 2 7 takeSeven)
  .nil) .nil)
  (.cons (.ret (.bin .Mod (.toi (.var 6)) (.var 1)))
  .nil)))
def takeTail : Ss := (.cons (.aug .turn .Add (.lit 1))
  (.cons (.set 4 (.toi (.get .rest)))
  (.cons (.ifS (.cmp .Gt (.var 4) (.lit 0)) (.cons (.put .rest (.bin .FloorDiv (.var 4) (.var 1)))
  (.cons (.ret (.bin .Mod (.toi (.var 4)) (.var 1)))
  .nil)) .nil)
  (.cons (.set 5 (.get .seed))
  (.cons (.ifS (.cmp .Gt (.get .left) (.lit 0)) (.cons (.aug .left .Sub (.lit 1))
  (.cons (.set 5 (.cell (.bin .Sub (.get .at) (.lit 1))))
  .nil)) .nil)
  takeEnd)))))
def ir_law_take : Ss := (.cons (.ifS (.cmp .Lt (.var 1) (.lit 2)) (.cons (.ret (.lit 0))
  .nil) .nil)
  (.cons (.for 2 64 takeBody) takeTail))
def mixV (i t : Int) : Int :=
  let one := ((i % 2147483647) * 48271 + t * 69621 + 12820163) % 2147483629
  let two := (one * one + one * 40692 + t * 7919 + 374761) % 2147483587
  (two * (two / 32768 + 3) + one / 7) % 2147483563
theorem mixV_b (i t : Int) : 0 ≤ mixV i t ∧ mixV i t < 2147483563 := ⟨Int.emod_nonneg _ (by decide), Int.emod_lt_of_pos _ (by decide)⟩
theorem bits_le (j : Int) : Builtin.Int.intBits j ≤ j.natAbs.log2 + 1 := by
  unfold Builtin.Int.intBits
  split <;> omega
theorem bits_small {j : Int} (h0 : 0 ≤ j) (h : j < 2 ^ 63) : Builtin.Int.intBits j ≤ 64 := by
  have b := bits_le j
  by_cases h2 : j.natAbs = 0
  · rw [h2] at b
    have e : Nat.log2 0 = 0 := by decide
    rw [e] at b
    omega
  · have := (Nat.log2_lt h2).mpr (show j.natAbs < 2 ^ 63 by omega)
    omega
theorem mulS {i j : Int} (h0 : 0 ≤ j) (h : j < 2 ^ 63) : MulOk i j := .inr (.inr (bits_small h0 h))
theorem mix_val (ns : List Int) (mx : Int → Int → Int) (i t : Int) (K : Int → Z → Prop) (h : ∀ l, K (mixV i t) ⟨false, l, 0, 0, 0, 0, 0⟩) :
    wSs ns mx ir_law_mix ⟨false, [some i, some t, none, none, none], 0, 0, 0, 0, 0⟩ ⟨fun _ => False, fun _ => False, K⟩ := by
  unfold ir_law_mix
  simp [wSs, wS, wE, bin, mulS]
  refine ⟨mulS (Int.emod_nonneg _ (by decide)) (Int.lt_trans (Int.emod_lt_of_pos _ (by decide)) (by decide)), by decide, .inr (.inl (bits_small (Int.emod_nonneg _ (by decide)) (Int.lt_trans (Int.emod_lt_of_pos _ (by decide)) (by decide)))), by decide, h _⟩
theorem mulL {i j : Int} (h0 : 0 ≤ i) (h : i < 2 ^ 63) : MulOk i j := .inr (.inl (bits_small h0 h))
theorem atI_of {ns : List Int} {a : Int} (h0 : 0 ≤ a) (h1 : a < ns.length) : ∃ v, L2.atI ns a = some v := by
  have hl : a.toNat < ns.length := by omega
  refine ⟨ns[a.toNat], ?_⟩
  unfold L2.atI L2.ixN
  rw [if_pos h0, if_pos h1]
  exact List.getElem?_eq_getElem hl
theorem body_val {ns : List Int} {mx : Int → Int → Int} {y : Option Int} {a r f t s m v : Int} {nx bk : Z → Prop} {K : Int → Z → Prop} (hB : StoB ns a r f t s) (hbk : bk ⟨true, [none, some m, some v, y, none, none, none], a, r, f, t, s⟩)
    (hnx : ∀ y a r f, StoB ns a r f t s → nx ⟨true, [none, some m, some v, y, none, none, none], a, r, f, t, s⟩) : wSs ns mx takeBody ⟨true, [none, some m, some v, y, none, none, none], a, r, f, t, s⟩ ⟨nx, bk, K⟩ := by
  unfold takeBody
  simp [wSs, wS, wT, wE, cmp, bin, Z.get, Z.put]
  refine ⟨fun _ => hbk, fun hr => ⟨fun _ => hbk, fun hf => ⟨fun _ => hbk, fun ha => ?_⟩⟩⟩
  obtain ⟨v1, e1⟩ := atI_of hB.a0 ha
  have b1 := hB.a0
  have b2 := hB.r0
  have b3 := hB.l0
  have b4 := hB.r1
  have b5 := hB.l1
  refine ⟨v1, e1, by decide, fun _ => hnx _ _ _ _ ⟨by omega, by omega, b2, b4, by omega, by omega, fun _ => by omega, hB.t0, hB.s0, hB.s1⟩, fun _ => ⟨by decide, by decide, hnx _ _ _ _ ⟨by omega, by omega, Int.emod_nonneg _ (by decide), Int.emod_lt_of_pos _ (by decide), b3, b5, fun h => by omega, hB.t0, hB.s0, hB.s1⟩⟩⟩
theorem seven_val {ns : List Int} {mx : Int → Int → Int} {y : Option Int} {rr b a r f t s m : Int} {K : Int → Z → Prop} {nx : Z → Prop} (step) (hs : step = fun (v : Int) (z : Z) (nx bk : Z → Prop) => wSs ns mx takeSeven { z with l := z.l.set 2 (some v) } ⟨nx, bk, K⟩)
    (h : ∀ x g, nx ⟨true, [none, some m, x, y, some rr, some b, some g], a, r, f, t, s⟩) : ∀ (n : Nat) (i : Int) (x : Option Int) (g : Int), forN step nx n i ⟨true, [none, some m, x, y, some rr, some b, some g], a, r, f, t, s⟩
  | 0, i, x, g => h x g
  | n + 1, i, x, g => by
    unfold forN
    have ih := seven_val step hs h n (i + 1)
    generalize forN step nx n (i + 1) = q at ih ⊢
    rw [hs]
    unfold takeSeven
    simp [wSs, wS, wE, bin, Z.get, mulS, mulL]
    exact ih _ _
theorem end_val {ns : List Int} {mx : Int → Int → Int} {x y g0 : Option Int} {rr b a r f t s m : Int} {K : Int → Z → Prop} (h2 : 2 ≤ m) (hK : ∀ (v : Int) z, 0 ≤ v → v < m → (∃ l, z = (⟨true, l, a, r, f, t, s⟩ : Z)) → K v z) :
    wSs ns mx takeEnd ⟨true, [none, some m, x, y, some rr, some b, g0], a, r, f, t, s⟩ ⟨fun _ => False, fun _ => False, K⟩ := by
  have last : ∀ x g, K (g % m) ⟨true, [none, some m, x, y, some rr, some b, some g], a, r, f, t, s⟩ := fun x g => hK _ _ (Int.emod_nonneg _ (by omega)) (Int.emod_lt_of_pos _ (by omega)) ⟨_, rfl⟩
  unfold takeEnd
  simp [wSs, wS, wT, wE, cmp, bin, Z.get]
  refine ⟨by decide, fun hm => ?_, fun hm => ⟨by omega, last _ _⟩⟩
  exact seven_val _ rfl (fun x g => ⟨g, rfl, m, rfl, by omega, last x g⟩) 7 0 _ _
theorem tail_val {ns : List Int} {mx : Int → Int → Int} {x y : Option Int} {a r f t s m : Int} {K : Int → Z → Prop} (hB : StoB ns a r f t s) (h2 : 2 ≤ m) (hm : m.natAbs.log2 < 9000) (hK : ∀ (v : Int) z, 0 ≤ v → v < m → (∃ l a r f t, z = (⟨true, l, a, r, f, t, s⟩ : Z) ∧ StoB ns a r f t s) → K v z) :
    wSs ns mx takeTail ⟨true, [none, some m, x, y, none, none, none], a, r, f, t, s⟩ ⟨fun _ => False, fun _ => False, K⟩ := by
  have b1 := hB.a0
  have b2 := hB.r0
  have b3 := hB.l0
  have b4 := hB.r1
  have b5 := hB.l1
  have b6 := hB.t0
  have b7 := hB.a1
  have b8 := hB.la
  unfold takeTail
  simp [wSs, wS, wT, wE, cmp, bin, Z.get, Z.put]
  refine ⟨fun hr => ⟨⟨by omega, hm⟩, by omega, hK _ _ (Int.emod_nonneg _ (by omega)) (Int.emod_lt_of_pos _ (by omega)) ⟨_, _, _, _, _, rfl, b1, b7, ?_, ?_, b3, b5, b8, by omega, hB.s0, hB.s1⟩⟩, fun hr => ⟨fun hf => ?_, fun hf => ?_⟩⟩
  · exact Int.ediv_nonneg b2 (by omega)
  · exact Int.lt_of_le_of_lt (Int.ediv_le_self _ b2) b4
  · have h9 := b8 hf
    obtain ⟨v, ev⟩ := atI_of (ns := ns) (a := a - 1) (by omega) (by omega)
    refine ⟨v, ev, end_val h2 fun v z h0 h1 hz => ?_⟩
    obtain ⟨l, rfl⟩ := hz
    exact hK _ _ h0 h1 ⟨_, _, _, _, _, rfl, b1, b7, b2, b4, by omega, by omega, fun _ => h9, by omega, hB.s0, hB.s1⟩
  · refine end_val h2 fun v z h0 h1 hz => ?_
    obtain ⟨l, rfl⟩ := hz
    exact hK _ _ h0 h1 ⟨_, _, _, _, _, rfl, b1, b7, b2, b4, b3, b5, b8, by omega, hB.s0, hB.s1⟩
theorem loop_val {ns : List Int} {mx : Int → Int → Int} {t s m : Int} {K : Int → Z → Prop} {nx : Z → Prop} (step) (hs : step = fun (v : Int) (z : Z) (nx bk : Z → Prop) => wSs ns mx takeBody { z with l := z.l.set 2 (some v) } ⟨nx, bk, K⟩)
    (h : ∀ x y a r f, StoB ns a r f t s → nx ⟨true, [none, some m, x, y, none, none, none], a, r, f, t, s⟩) : ∀ (n : Nat) (i : Int) (x y : Option Int) (a r f : Int), StoB ns a r f t s → forN step nx n i ⟨true, [none, some m, x, y, none, none, none], a, r, f, t, s⟩
  | 0, i, x, y, a, r, f, hB => h x y a r f hB
  | n + 1, i, x, y, a, r, f, hB => by
    unfold forN
    have ih := loop_val step hs h n (i + 1)
    generalize forN step nx n (i + 1) = q at ih ⊢
    rw [hs]
    exact body_val hB (h _ _ _ _ _ hB) fun y a r f hB => ih _ _ _ _ _ hB
theorem take_val {ns : List Int} {mx : Int → Int → Int} {a r f t s m : Int} {K : Int → Z → Prop} (hB : StoB ns a r f t s) (hm : m.natAbs.log2 < 9000) (hK : ∀ (v : Int) z, 0 ≤ v → (v < m ∨ v = 0) → (∃ l a r f t, z = (⟨true, l, a, r, f, t, s⟩ : Z) ∧ StoB ns a r f t s) → K v z) :
    wSs ns mx ir_law_take ⟨true, [none, some m, none, none, none, none, none], a, r, f, t, s⟩ ⟨fun _ => False, fun _ => False, K⟩ := by
  unfold ir_law_take
  simp [wSs, wS, wT, wE, cmp]
  refine ⟨fun h => hK _ _ (by omega) (.inr rfl) ⟨_, _, _, _, _, rfl, hB⟩, fun h => ?_⟩
  exact loop_val _ rfl (fun x y a r f hB => tail_val hB h hm fun v z h0 h1 hz => hK v z h0 (.inl h1) hz) 64 0 _ _ _ _ _ hB
end NL
end VL
set_option maxHeartbeats 4000000
/-! VLr: the contracts of the store's defs. -/
namespace VL
open PySem PySem.Spec PyProof.Rows L2
/-- what _law_take promises -/
def vTake : VSp := { α := Int, arg := fun m => [.tok, .int m], pre := fun m => m.natAbs.log2 < 9000, post := fun m o d => o = false ∧ ∃ r, d = .int r ∧ 0 ≤ r ∧ (r < m ∨ r = 0), exc := fun _ _ => False }
section
variable {C : CT} {P : Program} {w : World} {K : PySem.W.Frag} {mg : Str → Option Value} {base : Heap} {f : Addr} {fd : FuncData} {params : Arguments} {body : List Stmt} {sc : Scope} {fuel : Nat}
abbrev NMix : List Str := ["cell", "turn", "low", "one", "two"]
abbrev NTake : List Str := ["store", "many", "k", "cell", "rest", "base", "got"]
theorem ok_mix (F : FunD K "_law_mix" "_law_mix" params body sc [] [] f fd) (Sc : FnScope NMix ["cell", "turn"] sc) (hlen : mg "len" = none) (hint : mg "int" = none) (habs : mg "abs" = none) (hrng : mg "range" = none)
    (hng : (NL.CN.mk NMix sc).gl "_law_mix" = false) (hir : NL.mapN (NL.cs fuel ⟨NMix, sc⟩) body = NL.ir_law_mix) : FnOk P w K mg base (L2N.CX P w) 1 f fd ["cell", "turn"] (NL.spMix NL.mixV) := by
  refine NL.fn_nl (mx := NL.mixV) (cn := ⟨NMix, sc⟩) (lv := 0) F Sc hlen hint habs hrng (fun h => by rw [hng] at h; cases h) hir (fun vs H Q E h => ?_) (fun vs H Q E h => ?_)
  · obtain ⟨i, j, rfl, _⟩ := h
    rfl
  · obtain ⟨i, j, rfl, hq⟩ := h
    refine ⟨0, 0, [], ⟨false, [some i, some j, none, none, none], 0, 0, 0, 0, 0⟩, ⟨fun _ => False, fun _ => False, fun v z => v = NL.mixV i j ∧ z.live = false⟩, ⟨(fun h => by cases h), fun _ => rfl, fun k v h => ?_, rfl, ?_⟩, ?_, fun σ' H' z' v O hk => ?_, fun _ => id, fun _ => id⟩
    · match k, h with
      | 0, h => cases h; rfl
      | 1, h => cases h; rfl
      | 2, h => cases h
      | 3, h => cases h
      | 4, h => cases h
      | k + 5, h => cases h
    · exact fun _ _ => rfl
    · exact NL.mix_val [] NL.mixV i j (fun v z => v = NL.mixV i j ∧ (z.live = false)) fun _ => ⟨rfl, rfl⟩
    · rw [hk.1, O.dead hk.2]
      exact hq
theorem ok_take (hK : C.K = K) (F : FunD K "_law_take" "_law_take" params body sc [] [] f fd) (Sc : FnScope NTake ["store", "many"] sc) (hlen : mg "len" = none) (hint : mg "int" = none) (habs : mg "abs" = none) (hrng : mg "range" = none)
    {fm : Addr} {fdm : FuncData} {psm : List Str} (Fm : FnOk P w K mg base (L2N.CX P w) 1 fm fdm psm (NL.spMix NL.mixV)) (gm : mg "_law_mix" = some (.ref fm)) (km : PySem.W.keepIn K (.ref fm) = true) (bm : Binds K fdm psm [])
    (hir : NL.mapN (NL.cs fuel ⟨NTake, sc⟩) body = NL.ir_law_take) : FnOk P w K mg base (L2N.CX P w) 2 f fd ["store", "many"] (lift C Cold vTake) := by
  refine NL.fn_nl (mx := NL.mixV) (cn := ⟨NTake, sc⟩) (lv := 1) F Sc hlen hint habs hrng (fun _ => ⟨fm, fdm, psm, Fm, gm, km, bm⟩) hir (fun vs H Q E h => ?_) (fun vs H Q E h => ?_)
  · obtain ⟨S, Fz, x, _, _, _, r, _⟩ := h
    rw [r.len] <;> rfl
  · obtain ⟨S, Fz, m, hc, hs, st, r, hp, hq, _⟩ := h
    obtain ⟨a, rr, l, t, s, hd, hB⟩ := st.st
    have r' : Reps C S Fz [.tok, .int m] vs := r
    unfold Reps at r'
    obtain ⟨v1, vr, rfl, h1, r'⟩ := r'
    unfold Reps at r'
    obtain ⟨v2, vr2, rfl, h2, r'⟩ := r'
    unfold Reps at r'
    unfold Rep at h1 h2
    subst r' h1 h2
    have eH : H = upd H S.p (.dK (stoL S.c a rr l t s)) := by
      funext b
      by_cases hb : b = S.p
      · subst hb; rw [upd_same]; exact hd
      · rw [upd_ne hb]
    have hcp : S.c ≠ S.p := fun z => by
      have := st.cells
      rw [z, st.free] at this
      cases this
    refine ⟨S.p, S.c, S.ns, ⟨true, [none, some m, none, none, none, none, none], a, rr, l, t, s⟩, ⟨fun _ => False, fun _ => False, fun v z => 0 ≤ v ∧ (v < m ∨ v = 0) ∧ z.live = true ∧ StoB S.ns z.a z.r z.f z.t z.s⟩, ⟨fun _ => ⟨rfl, rfl, eH, hs _ _ st.cells, hcp⟩, (fun h => by cases h), fun k v h => ?_, rfl, fun _ _ => rfl⟩, ?_, fun σ' H' z' v O hk => ?_, fun _ => id, fun _ => id⟩
    · match k, h with
      | 0, h => cases h
      | 1, h => cases h; rfl
      | 2, h => cases h
      | 3, h => cases h
      | 4, h => cases h
      | 5, h => cases h
      | 6, h => cases h
      | k + 7, h => cases h
    · exact NL.take_val hB hp fun v z h0 h1 ⟨l', a', r', f', t', e, hB'⟩ => by
        subst e
        exact ⟨h0, h1, rfl, hB'⟩
    · obtain ⟨h0, h1, hl, hB'⟩ := hk
      obtain ⟨_, _, eH', _, _⟩ := O.st hl
      refine hq false (.int v) (.int v) Fz H' ⟨rfl, v, rfl, h0, h1⟩ ?_ (by unfold Res; exact rep_int (C := C) (S := S) (F := Fz))
      refine ⟨Sub.refl Fz, fun b o hb => ?_, fun b o hb e => by rw [eH', upd_ne hb]; exact e, fun _ _ h => .inl h, st.cells, st.free, st.len, z'.a, z'.r, z'.f, z'.t, z'.s, by rw [eH', upd_same], hB'⟩
      have : b ≠ S.p := fun z => by rw [z, st.free] at hb; cases hb
      rw [eH', upd_ne this]
      exact hs _ _ hb

/-! ### _law_store -/
abbrev NStore : List Str := ["script", "cell", "cells", "seed", "k"]
/-- a new store: its cells, its seed -/
def spStore (K : PySem.W.Frag) : Sp := fun vs H Q _ => ∃ a ns, vs = [.ref a] ∧ SqL K H a ((ns : List Int).map V.int) ∧ ∀ p c s H', H p = none → H c = none → c ≠ p → (∀ b o, H b = some o → H' b = some o) → H' c = some (.lst ((ns.take 63).map V.int)) → H' p = some (.dK (stoL c 0 0 0 0 s)) → 0 ≤ s → s < 2147483647 → Q (.ref p) H'
abbrev storeIR : NL.Ss := .cons (.set 3 (.bin .Mod (.toi (.bin .Add (.bin .Mult (.var 3) (.lit 31)) (.mix (.var 1) (.var 4)))) (.lit 2147483629))) .nil
theorem ps_any {X : Cx} {ss : List Stmt} {T : Hp × L2.St → TS} (h : ∀ H0, PSs X ss (T H0)) : PSs X ss (fun D σ H => ∃ H0, T H0 D σ H) := ⟨fun pins s σ H D I ⟨H0, q⟩ => (h H0).run pins s σ H D I q⟩
theorem setcomp {X : Cx} {i : Nat} {y : Str} {py : Pos} {elt tg iter : Expr} {scope : Scope} {own : List (Str × Nat)} {pos spos : Pos} {wi : TI} {g : TG} {te : TE} (hc : X.calm = true) (hN : X.N.Nodup) (hy : X.N[i]? = some y) (hyl : X.env.scope.names.lookup y = some .local)
    (hi : PI X tg iter wi) (ok : BlkOk X.N X.env.scope scope own)
    (hg : ∀ (s : Shared) (H : Hp) (C : Addr) (cl : List (Str × Addr)) (fp : List Addr), PG (X.blk s H scope (compEnvC scope cl C X.env) fp) tg g)
    (he : ∀ (s : Shared) (H : Hp) (C : Addr) (cl : List (Str × Addr)) (fp : List Addr), PE (X.blk s H scope (compEnvC scope cl C X.env) fp) elt te) (hs : ∀ x, foldedSetIterable iter X.env x = pure x) :
    PS X (.Assign [.Name y py] (.ListComp elt [⟨tg, iter, [], 0⟩] scope pos) spos) (tAsg (tLc wi g tYes te (own.map (·.2))) (gName i)) := by
  obtain ⟨b, hsw, hb⟩ := swaps_name (elt := elt) (gens := [⟨tg, iter, [], 0⟩]) (scope := scope) (pos := pos) (t := y) (p := py) (l := spos.line) (env := X.env)
  cases b with
  | false => exact ps_set hN hy (.inl hyl) (pe_lc hc hN hi ok hg (fun _ _ _ _ _ => pts_nil) he hs) hsw (.inr hyl)
  | true => exact ps_setLc hc hN hy hyl hsw hi ok hg (fun _ _ _ _ _ => pts_nil) he hs
theorem store_for {H1 : Hp} {c : Addr} {xs : List Int} {σ : L2.St} {D : L2.Ends} {sd : Int} {v1 v4 : Option V} {s0 : Option V} (hc : H1 c = some (.lst (xs.map V.int))) (hσ : σ = [s0, v1, some (.ref c), some (.int sd), v4]) (hsd : 0 ≤ sd)
    (hlt : xs = [] → sd < 2147483647)
    (hD : ∀ s0 v1 v4 sd H', 0 ≤ sd → sd < 2147483647 → (∀ b o, H1 b = some o → H' b = some o) → D.nx [s0, v1, some (.ref c), some (.int sd), v4] H') :
    tFor (iEnum K (tCons (tVar 2) tNil)) (gTup K 2 (gCons (gName 4) (gCons (gName 1) gNil))) (fun D σ H => ∃ q : Hp × L2.St, NL.tSs 0 0 [] NL.mixV q.1 q.2 storeIR D σ H) D σ H1 := by
  subst hσ
  refine ⟨.ref c, rfl, c, xs.map V.int, rfl, .of hc, ?_⟩
  refine for_it (g := gTup K 2 (gCons (gName 4) (gCons (gName 1) gNil))) (tb := fun D σ H => ∃ q : Hp × L2.St, NL.tSs 0 0 [] NL.mixV q.1 q.2 storeIR D σ H) (D := D) (σ := [s0, v1, some (.ref c), some (.int sd), v4]) (H := H1) (walk_enum (K := K) (a := c) (xs := xs.map V.int)) (fun i σ H => (∀ b o, H1 b = some o → H b = some o) ∧ ∃ s0 v1 v4 sd, σ = [s0, v1, some (.ref c), some (.int sd), v4] ∧ 0 ≤ sd ∧ (i = xs.length → sd < 2147483647)) ⟨fun _ _ h => h, _, _, _, sd, rfl, hsd, fun h => hlt (List.length_eq_zero_iff.mp h.symm)⟩ (fun i σ H _ p => .of (p.1 _ _ hc)) (fun i x σ H H' hi p y => ?_) (fun σ H p => ?_)
  · obtain ⟨hk, s0, v1, v4, sd, rfl, h0, _⟩ := p
    obtain ⟨T, x1, x2, rfl, hT, rfl, e1, e2⟩ := y
    cases e1
    have e2 : (xs.map V.int)[i]? = some x2 := e2
    rw [List.getElem?_map] at e2
    obtain ⟨z, hz, e3⟩ := Option.map_eq_some_iff.mp e2
    subst e3
    refine ⟨T, _, rfl, .of upd_same, rfl, .int (i : Nat), _, rfl, .int z, _, rfl, rfl, (upd H T (.tup [.int (i : Nat), .int z]), [s0, some (.int z), some (.ref c), some (.int sd), some (.int (i : Nat))]), ⟨false, [none, some z, none, some sd, some (i : Nat)], 0, 0, 0, 0, 0⟩, ⟨fun z' => ∃ l w, z' = (⟨false, l, 0, 0, 0, 0, 0⟩ : NL.Z) ∧ l = [none, some z, none, some w, some (i : Nat)] ∧ 0 ≤ w ∧ w < 2147483629, fun _ => False, fun _ _ => False⟩, ⟨(fun h => by cases h), fun _ => rfl, fun k v h => ?_, rfl, fun _ _ => rfl⟩, ?_, ⟨fun σ' H' z' O hk' => ?_, fun _ _ _ _ hk' => hk'.elim, fun _ _ _ _ _ hk' => hk'.elim⟩⟩
    · match k, h with
      | 0, h => cases h
      | 1, h => cases h; rfl
      | 2, h => cases h
      | 3, h => cases h; rfl
      | 4, h => cases h; rfl
      | k + 5, h => cases h
    · simp [NL.wSs, NL.wS, NL.wE, NL.bin, NL.mulS]
      exact ⟨Int.emod_nonneg _ (by decide), Int.emod_lt_of_pos _ (by decide)⟩
    · obtain ⟨l, w', rfl, rfl, hw0, hw1⟩ := hk'
      have el := O.len
      have eH : H' = upd H T (.tup [.int (i : Nat), .int z]) := O.dead rfl
      have a0 := O.kp 0 rfl
      have a2 := O.kp 2 rfl
      have a1 := O.l 1 z rfl
      have a3 := O.l 3 w' rfl
      have a4 := O.l 4 (i : Nat) rfl
      refine ⟨fun b o hb => by rw [eH, upd_ne (ne_of_none (hk b o hb) hT)]; exact hk b o hb, s0, some (.int z), some (.int (i : Nat)), w', ?_, hw0, fun _ => by omega⟩
      match σ', el with
      | [b0, b1, b2, b3, b4], _ =>
        simp only [List.getElem?_cons_zero, List.getElem?_cons_succ, Option.some.injEq] at a0 a1 a2 a3 a4
        rw [a0, a1, a2, a3, a4]
  · obtain ⟨hk, s0, v1, v4, sd, rfl, h0, h1⟩ := p
    exact hD _ _ _ _ _ h0 (h1 (by rw [List.length_map])) hk

/-- the text of _law_store, whatever its places -/
theorem ok_store {p1 p2 p3 p4 p5 p6 p7 p8 p9 p10 p11 p12 p13 p14 p15 p16 p17 p18 p19 p20 p21 p22 p23 p24 p25 p26 p27 p28 p29 p30 p31 p32 p33 p34 p35 p36 p37 p38 p39 p40 p41 p42 p43 p44 p45 p46 p47 p48 p49 p50 p51 p52 p53 : Pos} {j1 j2 j3 j4 j5 j6 j7 j8 j9 j10 j11 j12 j13 j14 k1 : Nat} {scope : Scope}
    (hb : body = [.Assign [.Name "cells" p1] (.ListComp (.Call (.Name "int" p2) [.Name "cell" p3] [] p4) [⟨.Name "cell" p5, .Subscript (.Name "script" p6) (.Slice none (some (.Constant (.int 63) j1 p7)) none p8) p9, [], 0⟩] scope p10) p11,
      .Assign [.Name "seed" p12] (.BinOp (.Constant (.int 104729) j2 p13) .Add (.Call (.Name "len" p14) [.Name "cells" p15] [] p16) p17) p18,
      .For (.Tuple [.Name "k" p19, .Name "cell" p20] k1 p21) (.Call (.Name "enumerate" p22) [.Name "cells" p23] [] p24) [.Assign [.Name "seed" p25] (.BinOp (.Call (.Name "int" p26) [.BinOp (.BinOp (.Name "seed" p27) .Mult (.Constant (.int 31) j3 p28) p29) .Add (.Call (.Name "_law_mix" p30) [.Name "cell" p31, .Name "k" p32] [] p33) p34] [] p35) .Mod (.Constant (.int 2147483629) j4 p36) p37) p38] [] p39,
      .Return (some (.Dict [some (.Constant (.str "cells") j5 p40), some (.Constant (.str "at") j6 p41), some (.Constant (.str "rest") j7 p42), some (.Constant (.str "left") j8 p43), some (.Constant (.str "turn") j9 p44), some (.Constant (.str "seed") j10 p45)] [.Name "cells" p46, .Constant (.int 0) j11 p47, .Constant (.int 0) j12 p48, .Constant (.int 0) j13 p49, .Constant (.int 0) j14 p52, .Name "seed" p50] p51)) p53])
    (F : FunD K "_law_store" "_law_store" params body sc [] [] f fd) (Sc : FnScope NStore ["script"] sc) (hl : ∀ y ∈ NStore, sc.names.lookup y = some .local ∧ okN y = true) (hgl : ∀ y ∈ (["int", "len", "enumerate", "_law_mix"] : List Str), sc.names.lookup y = some .globalImplicit)
    (hblk : blkC NStore sc scope [("cell", 1)] = true) (hcell : (relS scope sc).names.lookup ("cell" : Str) = some .local) (hint2 : (relS scope sc).names.lookup ("int" : Str) = some .globalImplicit)
    (hlen : mg "len" = none) (hint : mg "int" = none) (habs : mg "abs" = none) (hrng : mg "range" = none) (henum : mg "enumerate" = none)
    {fm : Addr} {fdm : FuncData} {psm : List Str} (Fm : FnOk P w K mg base (L2N.CX P w) 1 fm fdm psm (NL.spMix NL.mixV)) (gm : mg "_law_mix" = some (.ref fm)) (km : PySem.W.keepIn K (.ref fm) = true) (bm : Binds K fdm psm []) :
    FnOk P w K mg base (L2N.CX P w) 2 f fd ["script"] (spStore K) := by
  have hloc : ∀ y, y ∈ NStore → sc.names.lookup y = some .local := fun y h => (hl y h).1
  have vis : ∀ y, y ∈ NStore → Vis sc y := fun y h => .inl (hl y h).1
  have dbg : ∀ y, y ∈ NStore → (y == ("__debug__" : Str)) = false ∧ (y == ("__classdict__" : Str)) = false := fun y h => okN_ok (hl y h).2
  refine F.ok Sc (fun vs H Q E h => ?_) (fun cdv A outer s H vs Q E hr h => ?_)
  · obtain ⟨a, ns, rfl, _⟩ := h
    rfl
  · subst hb
    have glob : ∀ y, y ∈ (["int", "len", "enumerate", "_law_mix"] : List Str) → Gl (cxOf (L2N.CX P w) P w K mg base NStore "_law_store" sc f cdv A outer s H E) y := fun y hy => hgl y hy
    have cx : NL.NC NL.mixV (cxOf (L2N.CX P w) P w K mg base NStore "_law_store" sc f cdv A outer s H E) ⟨NStore, sc⟩ := {
      hN := rfl
      sc := rfl
      nd := Sc.nd
      calm := rfl
      po := passes_of (K := fun e s' => L2N.CX P w outer H s E e s') rfl
      un := by have := hr.un; show (A.deeper _).units + 1 < cLine; omega
      len := hlen
      int := hint
      abs := habs
      rng := hrng
      mix := fun _ => ⟨1, fm, fdm, psm, Fm, hr, gm, km, bm⟩ }
    have body3 : ∀ q : Hp × L2.St, PSs (cxOf (L2N.CX P w) P w K mg base NStore "_law_store" sc f cdv A outer s H E) [.Assign [.Name "seed" p25] (.BinOp (.Call (.Name "int" p26) [.BinOp (.BinOp (.Name "seed" p27) .Mult (.Constant (.int 31) j3 p28) p29) .Add (.Call (.Name "_law_mix" p30) [.Name "cell" p31, .Name "k" p32] [] p33) p34] [] p35) .Mod (.Constant (.int 2147483629) j4 p36) p37) p38] (NL.tSs 0 0 [] NL.mixV q.1 q.2 storeIR) := fun q => by
      have h := NL.s_list (fun st => NL.s_all (p := 0) (c := 0) (ns := []) (H0 := q.1) (σ0 := q.2) cx 9 st) [.Assign [.Name "seed" p25] (.BinOp (.Call (.Name "int" p26) [.BinOp (.BinOp (.Name "seed" p27) .Mult (.Constant (.int 31) j3 p28) p29) .Add (.Call (.Name "_law_mix" p30) [.Name "cell" p31, .Name "k" p32] [] p33) p34] [] p35) .Mod (.Constant (.int 2147483629) j4 p36) p37) p38]
      have e : NL.mapN (NL.cs 9 ⟨NStore, sc⟩) [.Assign [.Name "seed" p25] (.BinOp (.Call (.Name "int" p26) [.BinOp (.BinOp (.Name "seed" p27) .Mult (.Constant (.int 31) j3 p28) p29) .Add (.Call (.Name "_law_mix" p30) [.Name "cell" p31, .Name "k" p32] [] p33) p34] [] p35) .Mod (.Constant (.int 2147483629) j4 p36) p37) p38] = storeIR := by
        have ix : ∀ (y : Str) (i : Nat), y ∈ NStore → ixOf y NStore = some i → (NL.CN.mk NStore sc).ix y = some i := fun y i hy hi => by
          unfold NL.CN.ix
          rw [if_pos (by rw [Bool.and_eq_true, decide_eq_true_eq]; exact ⟨(hl y hy).2, (hl y hy).1⟩)]
          exact hi
        have g : ∀ y, y ∈ (["int", "len", "enumerate", "_law_mix"] : List Str) → okN y = true → (NL.CN.mk NStore sc).gl y = true := fun y hy ho => by
          unfold NL.CN.gl
          rw [Bool.and_eq_true, decide_eq_true_eq]
          exact ⟨ho, hgl y hy⟩
        have i1 := ix "cell" 1 (by simp [NStore]) (by decide)
        have i3 := ix "seed" 3 (by simp [NStore]) (by decide)
        have i4 := ix "k" 4 (by simp [NStore]) (by decide)
        have g1 := g "int" (by simp) (by decide)
        have g2 := g "_law_mix" (by simp) (by decide)
        simp [NL.mapN, NL.cs, NL.ce, i1, i3, i4, g1, g2, isStar, storeIR]
      rw [e] at h
      exact h
    refine ⟨_, pss_cons (setcomp (i := 2) (own := [("cell", 1)]) rfl Sc.nd rfl (hloc _ (by simp [NStore])) (pi_list (pe_slice sl_list (pe_var (i := 0) rfl (vis _ (by simp [NStore])) (dbg _ (by simp [NStore])).1 (dbg _ (by simp [NStore])).2) po_none (po_some pe_int))) (blkOk_by hblk)
        (fun s H C cl fp => pg_name (i := 1) Sc.nd rfl (.inl hcell) (.inr hcell))
        (fun s H C cl fp => pe_callTy call_int1 hint2 hint (by decide +kernel) (pa_cons (pe_var (i := 1) rfl (.inl hcell) (dbg _ (by simp [NStore])).1 (dbg _ (by simp [NStore])).2) pa_nil rfl) (by decide) (by decide) rfl rfl) (fun _ => rfl))
      (pss_cons (ps_set (i := 3) Sc.nd rfl (.inl (hloc _ (by simp [NStore]))) (pe_op op_add pe_int (pe_callB call_len_seq (glob _ (by simp)) hlen boot_len (pa_cons (pe_var (i := 2) rfl (vis _ (by simp [NStore])) (dbg _ (by simp [NStore])).1 (dbg _ (by simp [NStore])).2) pa_nil rfl) (by decide) (by decide) rfl rfl)) rfl (.inl rfl))
      (pss_cons (ps_for cx.po rfl (pi_enum (glob _ (by simp)) henum (pa_cons (pe_var (i := 2) rfl (vis _ (by simp [NStore])) (dbg _ (by simp [NStore])).1 (dbg _ (by simp [NStore])).2) pa_nil rfl) rfl)
          (pg_tup (n := 2) rfl (pgs_cons (pg_name (i := 4) Sc.nd rfl (.inl (hloc _ (by simp [NStore]))) (.inl rfl)) (pgs_cons (pg_name (i := 1) Sc.nd rfl (.inl (hloc _ (by simp [NStore]))) (.inl rfl)) pgs_nil rfl) rfl) rfl rfl) (ps_any body3) (fun _ => rfl))
      (pss_one (ps_ret (pe_disp (pps_cons pe_str (pe_var (i := 2) rfl (vis _ (by simp [NStore])) (dbg _ (by simp [NStore])).1 (dbg _ (by simp [NStore])).2) (pps_cons pe_str pe_int (pps_cons pe_str pe_int (pps_cons pe_str pe_int (pps_cons pe_str pe_int (pps_cons pe_str (pe_var (i := 3) rfl (vis _ (by simp [NStore])) (dbg _ (by simp [NStore])).1 (dbg _ (by simp [NStore])).2) pps_nil)))))) rfl rfl (by simp) (by simp)))))), ?_⟩
    obtain ⟨a, ns, rfl, hsq, hq⟩ := h
    have ecut : cutV (ns.map V.int) none (some 63) = (ns.take 63).map V.int := by
      unfold cutV
      rw [HT.sIx_none, show (some (63 : Int)) = some (((63 : Nat) : Nat) : Int) from rfl, HT.sIx_nat, List.drop_zero, List.length_map, List.map_take, Nat.sub_zero]
      by_cases h : ns.length ≤ 63
      · rw [Nat.min_eq_right h, List.take_of_length_le (by rw [List.length_map]; omega), List.take_of_length_le (by rw [List.length_map]; omega)]
      · rw [Nat.min_eq_left (by omega)]
    refine ⟨.ref a, rfl, 63, rfl, a, ns.map V.int, rfl, hsq, fun q hq0 => ⟨q, rfl, ⟨_, .of upd_same⟩, fun D hD => ?_⟩⟩
    rw [ecut] at hD ⊢
    generalize exs : ns.take 63 = xs at *
    have hxl : xs.length ≤ 63 := by rw [← exs, List.length_take]; omega
    refine lc_list (K := K) (a := q) (xs := xs.map V.int) (fun i H' => H' D = some (.lst ((xs.take i).map V.int)) ∧ ∀ b o, upd H q (.lst (xs.map V.int)) b = some o → H' b = some o) ⟨upd_same, fun b o hb => by rw [upd_ne (ne_of_none hb hD)]; exact hb⟩ (fun i H' _ p => .of (p.2 _ _ upd_same)) (fun i x H' hx p => ?_) (fun H' p => ?_)
    · obtain ⟨p1, p2⟩ := p
      rw [List.getElem?_map] at hx
      obtain ⟨z, hz, rfl⟩ := Option.map_eq_some_iff.mp hx
      refine ⟨rfl, ?_⟩
      unfold tYes
      dsimp only
      rw [if_pos rfl]
      refine ⟨.int z, rfl, .inl ⟨z, rfl, _, p1, ?_, ?_, fun b o hb => ?_⟩⟩
      · rw [List.length_map, List.length_take, sizeLine_eq]; omega
      · rw [upd_same, List.take_add_one, hz, List.map_append] <;> rfl
      · rw [upd_ne (ne_of_none hb hD)]
        exact p2 b o hb
    · obtain ⟨p1, p2⟩ := p
      rw [List.length_map, List.take_length] at p1
      refine ⟨.ref D, rfl, D, xs.map V.int, rfl, .inl (.of p1), 104729, _, rfl, rfl, ?_⟩
      have hDq : ∀ b o, H b = some o → H' b = some o := fun b o hb => p2 b o (by rw [upd_ne (ne_of_none hb hq0)]; exact hb)
      have hHD : H D = none := by
        cases z : H D with
        | none => rfl
        | some o =>
          have : D ≠ q := ne_of_none z hq0
          rw [upd_ne this, z] at hD
          cases hD
      rw [List.length_map]
      refine store_for (c := D) (xs := xs) (sd := 104729 + (xs.length : Nat)) (v1 := none) (v4 := none) (s0 := some (.ref a)) p1 rfl (by omega) (fun h => by rw [h]; decide) fun s0 v1 v4 sd H2 h0 h1 hk => ?_
      intro p hp
      have hH2D := hk D _ p1
      have hpD : D ≠ p := fun z => by subst z; rw [hp] at hH2D; cases hH2D
      refine ⟨.ref D, rfl, .int sd, rfl, upd_same, stoL D 0 0 0 0 sd, rfl, by simp [stoL], ?_⟩
      have hHp : H p = none := by
        cases z : H p with
        | none => rfl
        | some o => rw [hk p o (hDq p o z)] at hp; cases hp
      refine hq p D sd _ hHp hHD hpD (fun b o hb => ?_) ?_ ?_ h0 h1
      · have : b ≠ p := ne_of_none hb hHp
        rw [upd_ne this, upd_ne this]
        exact hk b o (hDq b o hb)
      · rw [upd_ne hpD, upd_ne hpD]
        exact hH2D
      · rw [upd_same]
        rfl
end
end VL
set_option maxHeartbeats 4000000
/-! VLs: the law's def; the head's facts in VL's words. -/
namespace VL
open PySem PySem.Spec PyProof.Rows L2
def spLaw (K : PySem.W.Frag) : Sp := fun vs H Q _ => ∃ (a : Addr) (ns : List Int), vs = [.ref a] ∧ SqL K H a (ns.map V.int) ∧ ∀ H', Q (.bl true) H'
section
variable {C : CT} {Γ : Nat → VSp} {P : Program} {w : World} {mg : Str → Option Value} {base : Heap} {cc : CC} {lv : Nat}
theorem fn_law {fuel : Nat} {params : Arguments} {rest : List Stmt} {f : Addr} {fd : FuncData} {ir : VSs} {p1 p2 p3 p4 p5 : Pos} (M : Mod C Γ P w mg base cc lv)
    (F : FunD C.K "law" "law" params (.Assign [.Name "store" p1] (.Call (.Name "_law_store" p2) [.Name "script" p3] [] p4) p5 :: rest) cc.sc [] [] f fd) (Sc : FnScope cc.N ["script"] cc.sc) (hfn : cc.fn = fun _ => true) (hcold : cc.hot = false)
    (h0 : cc.N[0]? = some ("script" : Str)) (h1 : cc.N[1]? = some ("store" : Str)) (l0 : cc.sc.names.lookup ("script" : Str) = some .local) (l1 : cc.sc.names.lookup ("store" : Str) = some .local ∨ cc.sc.names.lookup ("store" : Str) = some .cell) (lg : cc.sc.names.lookup ("_law_store" : Str) = some .globalImplicit)
    {fs : Addr} {fds : FuncData} {pss : List Str} (Fs : FnOk P w C.K mg base (L2N.CX P w) lv fs fds pss (spStore C.K)) (gs : mg "_law_store" = some (.ref fs)) (ks : PySem.W.keepIn C.K (.ref fs) = true) (bs : Binds C.K fds pss [])
    (hir : mapS (cS fuel cc) rest = ir) (hval : wSs Γ ir (.un :: .val .tok :: List.replicate (cc.N.length - 2) .un) { nx := fun _ => False, rt := fun o d => o = false ∧ d = .bl true } fun _ _ => False) :
    FnOk P w C.K mg base (L2N.CX P w) (lv + 1) f fd ["script"] (spLaw C.K) := by
  have hlen : 2 ≤ cc.N.length := by
    have := (List.getElem?_eq_some_iff.mp h1).1
    omega
  refine F.ok Sc (fun vs H Q E h => ?_) (fun cdv A outer s H vs Q E hr h => ?_)
  · obtain ⟨a, ns, rfl, _⟩ := h
    rfl
  · obtain ⟨a, ns, rfl, hsq, hq⟩ := h
    have cx : CtxS C Γ (cxOf (L2N.CX P w) P w C.K mg base cc.N "law" cc.sc f cdv A outer s H E) cc ⟨fun cls d _ H => False, Cold⟩ := M.cxS Sc hfn hcold hr takesN0
    refine ⟨_, pss_cons (ps_set (i := 1) Sc.nd h1 l1 (pe_callS (E := fun _ _ _ _ => False) Fs hr lg gs ks bs (fun σ pins H s e s' I z => passN pins σ H s e s' I z)
      (pa_cons (pe_var (i := 0) h0 (.inl l0) (by decide) (by decide)) pa_nil rfl) (by decide) rfl rfl) rfl (.inl (by rfl))) (k_list (fun s => allS fuel _ _ _ cx s) rest), ?_⟩
    refine ⟨.ref a, rfl, a, ns, rfl, hsq, fun p c sd H' hp hc hcp hk e1 e2 s0 s1 => ?_⟩
    have nop : ∀ (i : Nat) d, (Slot.un :: Slot.val .tok :: List.replicate (cc.N.length - 2) Slot.un)[i]? = some (.own d) → False := fun i d e => by
      match i, e with
      | 0, e => cases e
      | 1, e => cases e
      | i + 2, e =>
        have e : (List.replicate (cc.N.length - 2) Slot.un)[i]? = some (.own d) := e
        rw [List.getElem?_replicate] at e
        split at e <;> cases e
    rw [← hir] at hval
    refine ⟨⟨p, c, ns.take 63, none⟩, fun b => if b = p then none else H' b, H', fun b => if b = p then none else H' b, _, _, _, ⟨fun b o hb => ?_, fun _ _ _ h => h, by show H' p ≠ none; rw [e2]; exact (fun z => by cases z), Sub.refl _, fun _ _ h => .inl h, ?_, fun i d e => ?_, fun i d e => (nop i d e).elim, fun i j d e a h => (nop i d h).elim, ⟨?_, ?_, ?_, ?_⟩⟩, hval, ⟨rfl, fun _ _ _ _ _ _ _ _ _ z => False.elim z⟩, ⟨fun _ _ _ _ _ z => False.elim z, fun _ _ _ _ _ z => False.elim z, fun _ _ _ _ _ z => False.elim z, fun o d v F' H'' _ hr hd => ?_⟩⟩
    · have hb : (if b = p then none else H' b) = some o := hb
      split at hb
      · cases hb
      · exact hb
    · show _ = (List.set (L2.start cc.N [V.ref a]) 1 _).length
      rw [List.length_set]
      unfold L2.start
      simp
      omega
    · match i, e with
      | 0, e => cases e
      | 1, e =>
        cases e
        refine ⟨.ref p, ?_, by unfold Rep; rfl⟩
        show (List.set (L2.start cc.N [V.ref a]) 1 (some (.ref p)))[1]? = _
        rw [List.getElem?_set_self (by unfold L2.start; simp; omega)]
      | i + 2, e =>
        have e : (List.replicate (cc.N.length - 2) Slot.un)[i]? = some (.val d) := e
        rw [List.getElem?_replicate] at e
        split at e <;> cases e
    · show (if c = p then none else H' c) = _
      rw [if_neg hcp]
      exact e1
    · show (if p = p then none else H' p) = _
      rw [if_pos rfl]
    · show (ns.take 63).length ≤ 63
      rw [List.length_take]
      omega
    · exact ⟨0, 0, 0, 0, sd, e2, by omega, by omega, by omega, by decide, by omega, by omega, fun h => by omega, by omega, s0, s1⟩
    · obtain ⟨rfl, rfl⟩ := hd
      unfold Res at hr
      have hr : Rep C (⟨p, c, ns.take 63, none⟩ : SG) F' (.bl true) v := hr
      unfold Rep at hr
      subst hr
      exact hq H''

/-! ### tables of the contexts -/
theorem look_nil {κ α : Type} [BEq κ] {p : κ → α → Prop} : ∀ x d, ([] : List (κ × α)).lookup x = some d → p x d := fun _ _ h => by cases h
theorem look_cons {κ α : Type} [BEq κ] [LawfulBEq κ] {p : κ → α → Prop} {y : κ} {e : α} {l : List (κ × α)} (h : p y e) (r : ∀ x d, l.lookup x = some d → p x d) : ∀ x d, ((y, e) :: l).lookup x = some d → p x d := fun x d hx => by
  rw [List.lookup_cons] at hx
  cases q : (x == y) with
  | true =>
    rw [q] at hx
    cases hx
    rw [eq_of_beq q]
    exact h
  | false =>
    rw [q] at hx
    exact r x d hx
theorem mem_nil {α : Type} {p : α → Prop} : ∀ x ∈ ([] : List α), p x := fun _ h => by cases h
theorem mem_cons' {α : Type} {p : α → Prop} {y : α} {l : List α} (h : p y) (r : ∀ x ∈ l, p x) : ∀ x ∈ y :: l, p x := fun x hx => by
  rcases List.mem_cons.mp hx with rfl | hx
  · exact h
  · exact r x hx
theorem con_int {C : CT} {mg : Str → Option Value} {x : Str} {i : Int} (h : ∃ t, mg x = some (.int i t)) : ConV C mg x (.int i) := by
  obtain ⟨t, h⟩ := h
  exact ⟨.int i, _, h, ⟨t, rfl⟩, fun S F => by unfold Rep; rfl⟩
theorem con_str {C : CT} {mg : Str → Option Value} {x s : Str} (h : ∃ t, mg x = some (.str s t)) : ConV C mg x (.str s) := by
  obtain ⟨t, h⟩ := h
  exact ⟨.str s, _, h, ⟨t, rfl⟩, fun S F => by unfold Rep; rfl⟩
section
variable {rs : List (Str × List Str)} {ts : List (Str × CN × List Bool)} {K : PySem.W.Frag}
theorem exI_rc (h : exB rs ts K = true) (i : Nat) {r : Str × List Str} (hr : rs[i]? = some r) : RcOk K r.1 r.2 := exB_rc h (x := r.1) (fs := r.2) (List.mem_of_getElem? hr)
theorem exI_is (h : exB rs ts K = true) (j : Nat) {t : Str} {cn : CN} {bs : List Bool} (ht : ts[j]? = some (t, cn, bs)) (i : Nat) {r : Str × List Str} {b : Bool} (hr : rs[i]? = some r) (hb : bs[i]? = some b) :
    PySem.W.kitOne K (.ref (He.ga K r.1)) (cn.v K) = some b ∧ PySem.W.exmOne K (.ref (He.ga K r.1)) (cn.v K) = some b :=
  exB_is h (List.mem_of_getElem? ht) (r := r) (b := b) (List.mem_of_getElem? (i := i) (by rw [List.getElem?_zip_eq_some]; exact ⟨hr, hb⟩))
theorem isv_own {mg : Str → Option Value} {t : Str} {tab : List (Nat × Bool)} (g : mg t = some (.ref (He.ga K t))) (h : ∀ c b, tab.lookup c = some b → ExcC K ((ctOf K rs).cls c) ∧ PySem.W.kitOne K (.ref ((ctOf K rs).cls c)) ((CN.own t).v K) = some b ∧ PySem.W.exmOne K (.ref ((ctOf K rs).cls c)) ((CN.own t).v K) = some b) :
    IsV (ctOf K rs) mg t tab := ⟨.ref (He.ga K t), .ref (He.ga K t), fun u => Iff.rfl, .inl g, h⟩
theorem isv_blt {mg : Str → Option Value} {t : Str} {n : String} {tab : List (Nat × Bool)} (g : mg t = none) (hb : bootBuiltins t = some (.type n)) (hn : t ≠ ("__name__" : Str)) (h : ∀ c b, tab.lookup c = some b → ExcC K ((ctOf K rs).cls c) ∧ PySem.W.kitOne K (.ref ((ctOf K rs).cls c)) ((CN.blt n).v K) = some b ∧ PySem.W.exmOne K (.ref ((ctOf K rs).cls c)) ((CN.blt n).v K) = some b) :
    IsV (ctOf K rs) mg t tab := ⟨.ty n, .type n, fun u => Iff.rfl, .inr ⟨g, hb, hn⟩, h⟩
end
end
end VL
set_option maxHeartbeats 4000000
/-! VLt: joining. -/
namespace VL
open PySem PySem.Spec PyProof.Rows L2
section
variable {C : CT} {Γ : Nat → VSp} {P : Program} {w : World} {K : PySem.W.Frag} {mg : Str → Option Value} {base : Heap} {x : Str} {k j lv : Nat}
theorem Fct.mono (h : Fct C Γ P w K mg base x k j) (hl : j ≤ lv) : Fct C Γ P w K mg base x k lv := by
  obtain ⟨f, fd, ps, F, r⟩ := h
  exact ⟨f, fd, ps, F.mono hl, r⟩
theorem FctX.mono (h : FctX C Γ P w K mg base x k j) (hl : j ≤ lv) : FctX C Γ P w K mg base x k lv := by
  obtain ⟨f, fd, ps, F, r⟩ := h
  exact ⟨f, fd, ps, ⟨F.len, fun A outer s H args us vs Q E p hr => F.run A outer s H args us vs Q E p (hr.mono hl)⟩, r⟩
theorem RaiseV.mono {c m : Nat} (h : RaiseV C P w mg base x c m j) (hl : j ≤ lv) : RaiseV C P w mg base x c m lv := by
  obtain ⟨e, li, fI, fd, ps, h1, r⟩ := h
  exact ⟨e, li, fI, fd, ps, Nat.le_trans h1 hl, r⟩
theorem rz_nil : ∀ x c m, ([] : List (Str × Nat × Nat)).lookup x = some (c, m) → RaiseV C P w mg base x c m lv := fun _ _ _ h => by cases h
theorem rz_cons {y : Str} {a b : Nat} {l : List (Str × Nat × Nat)} (h : RaiseV C P w mg base y a b lv) (r : ∀ x c m, l.lookup x = some (c, m) → RaiseV C P w mg base x c m lv) : ∀ x c m, ((y, a, b) :: l).lookup x = some (c, m) → RaiseV C P w mg base x c m lv :=
  fun x c m hx => look_cons (p := fun x q => RaiseV C P w mg base x q.1 q.2 lv) (e := (a, b)) (l := l) h (fun x q hq => r x q.1 q.2 hq) x (c, m) hx
theorem fct_take (h : Γ k = vTake) {f : Addr} {fd : FuncData} {ps : List Str} (F : FnOk P w K mg base (L2N.CX P w) 2 f fd ps (lift C Cold vTake)) (g : mg x = some (.ref f)) (kp : PySem.W.keepIn K (.ref f) = true) (b : Binds K fd ps []) : Fct C Γ P w K mg base x k 2 :=
  ⟨f, fd, ps, by rw [h]; exact F, g, kp, b⟩
end
theorem noexc {P : Program} {w : World} {outer : List Env} {H : Hp} {s : Shared} {e : Value} {s' : Shared} (h : L2N.CX P w outer H s (fun _ _ _ => False) e s') : False := by
  obtain ⟨_, _, _, _, _, _, _, _, _, _, _, _, z⟩ := h
  exact z
theorem to_cx0 {P : Program} {w : World} {K : PySem.W.Frag} {mg : Str → Option Value} {base : Heap} {lv : Nat} {f : Addr} {fd : FuncData} {ps : List Str} (F : FnOk P w K mg base (L2N.CX P w) lv f fd ps (spLaw K)) : FnOk P w K mg base CX0 lv f fd ps (spLaw K) :=
  ⟨F.len, fun A outer s H args us vs Q E hr e0 hb r h => codeAny_mono (F.run A outer s H args us vs Q (fun _ _ _ => False) hr e0 hb r h) fun r s' hq => by
    cases r with
    | error e => exact (noexc hq).elim
    | ok fl => cases fl <;> exact hq⟩
/-! ### contracts, values -/
/-- a def that computes -/
def VSp.det {α : Type} (arg : α → List D) (pre : α → Prop) (own : Bool) (f : α → D) : VSp := ⟨α, arg, pre, fun x o d => o = own ∧ d = f x, fun _ _ => False⟩
theorem run_det {α : Type} {arg : α → List D} {pre : α → Prop} {own : Bool} {f : α → D} {ds : List D} {K : Bool → D → Prop} {E : Exc → Prop} (x : α) (h : ds = arg x) (hp : pre x) (hk : K own (f x)) : (VSp.det arg pre own f).run ds K E := by
  unfold VSp.run
  exact ⟨x, h, hp, fun o d ⟨h1, h2⟩ => by subst h1 h2; exact hk, fun e z => z.elim⟩
theorem run_of {s : VSp} {ds : List D} {K : Bool → D → Prop} {E : Exc → Prop} (x : s.α) (h : ds = s.arg x) (hp : s.pre x) (hk : ∀ o d, s.post x o d → K o d) (he : ∀ e, s.exc x e → E e) : s.run ds K E := by
  unfold VSp.run
  exact ⟨x, h, hp, hk, he⟩
/-- a loop, by an invariant of what is left -/
theorem forL_inv {step : D → En → (En → Prop) → (En → Prop) → Prop} {K : En → Prop} (P : List D → En → Prop) (h0 : ∀ ρ, P [] ρ → K ρ) (hs : ∀ d ds ρ nx bk, P (d :: ds) ρ → (∀ ρ', P ds ρ' → nx ρ') → (∀ ρ', K ρ' → bk ρ') → step d ρ nx bk) : ∀ (ds : List D) (ρ : En), P ds ρ → forL step K ds ρ
  | [], ρ, h => h0 ρ h
  | d :: ds, ρ, h => hs d ds ρ _ _ h (fun ρ' h' => forL_inv P h0 hs ds ρ' h') (fun _ h => h)
/-- a comprehension, by an invariant -/
theorem compL_inv {own : List Nat} {step : D → En → EK → (En → Prop) → Prop} {K : List D → En → Prop} (P : List D → List D → En → Prop) (h0 : ∀ acc ρ, P [] acc ρ → K acc ρ)
    (hs : ∀ d ds acc ρ (Ka : EK) (Ks : En → Prop), P (d :: ds) acc ρ → (∀ r ρ1, r.lv ρ1 (acc.length < lim ∧ P ds (acc ++ [r.d]) (wipeV own (r.fz ρ1))) → Ka r ρ1) → (∀ ρ1, P ds acc (wipeV own ρ1) → Ks ρ1) → step d ρ Ka Ks) : ∀ (ds acc : List D) (ρ : En), P ds acc ρ → compL own step ds acc ρ K
  | [], acc, ρ, h => h0 acc ρ h
  | d :: ds, acc, ρ, h => hs d ds acc ρ _ _ h (fun r ρ1 h' => by
      rw [lv_iff] at h' ⊢
      exact ⟨h'.1, h'.2.1, compL_inv P h0 hs ds _ _ h'.2.2⟩) (fun ρ1 h' => compL_inv P h0 hs ds acc _ h')
/-- a comprehension whose turns leave the state as it was -/
theorem compL_fm {own : List Nat} {step : D → En → EK → (En → Prop) → Prop} {K : List D → En → Prop} (c : D → Bool) (f : D → D) {ρ : En} (ρd : D → En) (hw : ∀ d, wipeV own (ρd d) = ρ) : ∀ (ds acc : List D), acc.length + ds.length ≤ lim →
    (∀ d ∈ ds, ∀ (Ka : EK) (Ks : En → Prop), (c d = true → Ka (.val (f d)) (ρd d)) → (c d = false → Ks (ρd d)) → step d ρ Ka Ks) → K (acc ++ (ds.filter c).map f) ρ → compL own step ds acc ρ K
  | [], acc, _, _, hk => by
    rw [List.filter_nil, List.map_nil, List.append_nil] at hk
    exact hk
  | d :: ds, acc, hl, hs, hk => by
    rw [List.length_cons] at hl
    refine hs d List.mem_cons_self _ _ (fun hc => ?_) (fun hc => ?_)
    · refine ⟨by omega, ?_⟩
      show compL own step ds (acc ++ [f d]) (wipeV own (ρd d)) K
      rw [hw]
      refine compL_fm c f ρd hw ds _ (by rw [List.length_append, List.length_singleton]; omega) (fun d' hd' => hs d' (List.mem_cons_of_mem _ hd')) ?_
      rw [List.filter_cons_of_pos hc, List.map_cons] at hk
      rw [List.append_assoc]
      exact hk
    · rw [hw]
      refine compL_fm c f ρd hw ds _ (by omega) (fun d' hd' => hs d' (List.mem_cons_of_mem _ hd')) ?_
      rw [List.filter_cons_of_neg (by rw [hc]; decide)] at hk
      exact hk
theorem filter_map_int {ms : List Int} {c : D → Bool} {g : Int → Bool} (h : ∀ m, c (.int m) = g m) : ((ms.map D.int).filter c).map id = (ms.filter g).map .int := by
  rw [List.map_id, List.filter_map]
  congr 1
  exact List.filter_congr fun m _ => h m
/-- [m for m in ints if g m] -/
theorem compL_ints {own : List Nat} {step : D → En → EK → (En → Prop) → Prop} {K : List D → En → Prop} (g : Int → Bool) {ρ : En} (ρd : Int → En) (hw : ∀ m, wipeV own (ρd m) = ρ) : ∀ (ms : List Int) (acc : List D), acc.length + ms.length ≤ lim →
    (∀ m ∈ ms, ∀ (Ka : EK) (Ks : En → Prop), (g m = true → Ka (.val (.int m)) (ρd m)) → (g m = false → Ks (ρd m)) → step (.int m) ρ Ka Ks) → K (acc ++ (ms.filter g).map .int) ρ → compL own step (ms.map .int) acc ρ K
  | [], acc, _, _, hk => by
    rw [List.filter_nil, List.map_nil, List.append_nil] at hk
    exact hk
  | m :: ms, acc, hl, hs, hk => by
    rw [List.length_cons] at hl
    refine hs m List.mem_cons_self _ _ (fun hc => ?_) (fun hc => ?_)
    · refine ⟨by omega, ?_⟩
      show compL own step (ms.map .int) (acc ++ [.int m]) (wipeV own (ρd m)) K
      rw [hw]
      refine compL_ints g ρd hw ms _ (by rw [List.length_append, List.length_singleton]; omega) (fun d' hd' => hs d' (List.mem_cons_of_mem _ hd')) ?_
      rw [List.filter_cons_of_pos hc, List.map_cons] at hk
      rw [List.append_assoc]
      exact hk
    · show compL own step (ms.map .int) acc (wipeV own (ρd m)) K
      rw [hw]
      refine compL_ints g ρd hw ms _ (by omega) (fun d' hd' => hs d' (List.mem_cons_of_mem _ hd')) ?_
      rw [List.filter_cons_of_neg (by rw [hc]; decide)] at hk
      exact hk
/-- [f m for m in ints] -/
theorem compL_map {own : List Nat} {step : D → En → EK → (En → Prop) → Prop} {K : List D → En → Prop} (f : Int → D) {ρ : En} (ρd : Int → En) (hw : ∀ m, wipeV own (ρd m) = ρ) : ∀ (ms : List Int) (acc : List D), acc.length + ms.length ≤ lim →
    (∀ m ∈ ms, ∀ (Ka : EK) (Ks : En → Prop), (Ka (.val (f m)) (ρd m)) → step (.int m) ρ Ka Ks) → K (acc ++ ms.map f) ρ → compL own step (ms.map .int) acc ρ K
  | [], acc, _, _, hk => by
    rw [List.map_nil, List.append_nil] at hk
    exact hk
  | m :: ms, acc, hl, hs, hk => by
    rw [List.length_cons] at hl
    refine hs m List.mem_cons_self _ _ ?_
    refine ⟨by omega, ?_⟩
    show compL own step (ms.map .int) (acc ++ [f m]) (wipeV own (ρd m)) K
    rw [hw]
    refine compL_map f ρd hw ms _ (by rw [List.length_append, List.length_singleton]; omega) (fun d' hd' => hs d' (List.mem_cons_of_mem _ hd')) ?_
    rw [List.append_assoc]
    exact hk
end VL
set_option maxHeartbeats 4000000
/-! VLu: values of the laws' common helpers. -/
namespace VL
open PySem PySem.Spec PyProof.Rows L2
/-- what a def's body must do -/
abbrev Val (Γ : Nat → VSp) (s : VSp) (ir : VSs) (N : Nat) : Prop := ∀ x : s.α, s.pre x → wSs Γ ir ((s.arg x).map .val ++ List.replicate (N - (s.arg x).length) .un) { nx := fun _ => s.post x false .non, rt := s.post x } (fun e _ => s.exc x e)
section
variable {Γ : Nat → VSp} {n m : Nat}
theorem log_small {k : Nat} (h : k ≤ 2 ^ 30) : (k : Int).natAbs.log2 < 9000 := by
  rw [Int.natAbs_natCast]
  by_cases hk : k = 0
  · subst hk; decide
  · have := (Nat.log2_lt hk).mpr (show k < 2 ^ 31 by omega)
    omega
theorem take_run (hT : Γ n = vTake) {k : Int} {K : Bool → D → Prop} {E : Exc → Prop} (hk : k.natAbs.log2 < 9000) (h : ∀ r : Int, 0 ≤ r → (r < k ∨ r = 0) → K false (.int r)) : (Γ n).run [.tok, .int k] K E := by
  rw [hT]
  exact run_of (s := vTake) k rfl hk (fun o d hp => by obtain ⟨rfl, r, rfl, h0, h1⟩ := hp; exact h r h0 h1) (fun e z => z.elim)
/-! ### _law_pick -/
def spPick : VSp := ⟨List D, fun ds => [.tok, .lst ds], fun ds => ds ≠ [] ∧ ds.length ≤ lim, fun ds o d => o = false ∧ d ∈ ds, fun _ _ => False⟩
def irPick (n : Nat) : VSs := (.cons (.ret (.ix (.var 1) (.call n (.cons (.var 0) (.cons (.blt .len (.cons (.var 1) .nil)) .nil)))))
  .nil)
theorem atI_nat {α : Type} {ds : List α} {r : Int} (h0 : 0 ≤ r) (h1 : r < ds.length) : ∃ d, L2.atI ds r = some d ∧ ds[r.toNat]? = some d := by
  have hl : r.toNat < ds.length := by omega
  refine ⟨ds[r.toNat], ?_, List.getElem?_eq_getElem hl⟩
  unfold L2.atI L2.ixN
  rw [if_pos h0, if_pos h1]
  exact List.getElem?_eq_getElem hl
theorem lim_log {k : Nat} (h : k ≤ lim) : (k : Int).natAbs.log2 < 9000 := log_small (by have : lim = 1000000 := rfl; omega)
theorem val_pick (hT : Γ n = vTake) : Val Γ spPick (irPick n) 2 := by
  show ∀ ds : List D, ds ≠ [] ∧ ds.length ≤ lim → _
  rintro ds ⟨hne, hl⟩
  show wSs Γ (irPick n) [.val .tok, .val (.lst ds)] _ _
  conv => whnf
  refine take_run hT (lim_log hl) fun r h0 h1 => ?_
  have hr : r < ds.length := by
    have : 0 < ds.length := List.length_pos_iff.mpr hne
    omega
  obtain ⟨d, h2, h3⟩ := atI_nat h0 hr
  conv => whnf
  exact ⟨d, h2, rfl, List.mem_of_getElem? h3⟩
theorem pick_run (hP : Γ m = spPick) {ds : List D} {K : Bool → D → Prop} {E : Exc → Prop} (hne : ds ≠ []) (hl : ds.length ≤ lim) (h : ∀ d ∈ ds, K false d) : (Γ m).run [.tok, .lst ds] K E := by
  rw [hP]
  exact run_of (s := spPick) ds rfl ⟨hne, hl⟩ (fun o d hp => by obtain ⟨rfl, h1⟩ := hp; exact h d h1) (fun e z => z.elim)
/-! ### _law_natural -/
def spNat : VSp := ⟨Int, fun t => [.tok, .int t], fun t => 0 ≤ t ∧ t < 2 ^ 8000, fun t o d => o = false ∧ ∃ r, d = .int r ∧ 0 ≤ r ∧ r ≤ t, fun _ _ => False⟩
def irNat (n : Nat) : VSs := (.cons (.asg (.nm 2) (.call n (.cons (.var 0) (.cons (.cst (.int 12)) .nil))))
  (.cons (.ifS (.tv (.cmp .Lt (.var 2) (.cst (.int 4)))) (.cons (.ret (.ix (.lst (.cons (.cst (.int 0)) (.cons (.blt .min (.cons (.cst (.int 1)) (.cons (.var 1) .nil))) (.cons (.blt .max (.cons (.cst (.int 0)) (.cons (.bin .Sub (.var 1) (.cst (.int 1))) .nil))) (.cons (.var 1) .nil))))) (.var 2)))
  .nil) .nil)
  (.cons (.ret (.call n (.cons (.var 0) (.cons (.bin .Add (.var 1) (.cst (.int 1))) .nil))))
  .nil)))
theorem log_of {t : Int} {a : Nat} (h0 : 0 ≤ t) (h : t < 2 ^ a) (ha : a ≤ 9000) (h1 : 0 < a) : t.natAbs.log2 < 9000 := by
  by_cases hk : t.natAbs = 0
  · rw [hk]; decide
  · have e : t.natAbs < 2 ^ a := by
      have : ((t.natAbs : Nat) : Int) < ((2 ^ a : Nat) : Int) := by
        rw [Int.natAbs_of_nonneg h0]
        simpa using h
      exact_mod_cast this
    have := (Nat.log2_lt hk).mpr e
    omega
theorem val_nat (hT : Γ n = vTake) : Val Γ spNat (irNat n) 3 := by
  show ∀ t : Int, 0 ≤ t ∧ t < 2 ^ 8000 → _
  rintro t ⟨h0, ht⟩
  show wSs Γ (irNat n) [.val .tok, .val (.int t), .un] _ _
  conv => whnf
  refine take_run hT (by decide) fun r hr0 hr1 => ?_
  conv => whnf
  refine ⟨fun h => ?_, fun h => ?_⟩
  · have h4 := of_decide_eq_true h
    have h5 : r.toNat = 0 ∨ r.toNat = 1 ∨ r.toNat = 2 ∨ r.toNat = 3 := by omega
    have er : r = (r.toNat : Int) := by omega
    conv => whnf
    rcases h5 with e | e | e | e <;> (rw [e] at er; subst er)
    · exact ⟨_, rfl, rfl, _, rfl, by omega, h0⟩
    · refine ⟨_, rfl, rfl, _, rfl, ?_⟩
      split <;> omega
    · refine ⟨_, rfl, rfl, _, rfl, ?_⟩
      split <;> omega
    · exact ⟨_, rfl, rfl, _, rfl, h0, Int.le_refl _⟩
  · conv => whnf
    refine take_run hT (log_of (a := 8001) (by omega) (by have : (2 : Int) ^ 8001 = 2 ^ 8000 * 2 := Int.pow_succ 2 8000; have : (0 : Int) < 2 ^ 8000 := Int.pow_pos (by decide); generalize (2 : Int) ^ 8000 = X at *; omega) (by decide) (by decide)) fun q hq0 hq1 => ?_
    exact ⟨rfl, q, rfl, hq0, by omega⟩

/-! ### _law_shuffle -/
def spShuf : VSp := ⟨List D, fun ds => [.tok, .lst ds], fun ds => ds.length ≤ lim, fun ds o d => o = true ∧ ∃ es, d = .lst es ∧ es.Perm ds, fun _ _ => False⟩
def irShuf (n : Nat) : VSs := (.cons (.asg (.nm 2) (.blt .list (.cons (.var 1) .nil)))
  (.cons (.asg (.nm 3) (.lst .nil))
  (.cons (.forS (.nm 4) (.rng (.cons (.blt .len (.cons (.var 1) .nil)) .nil)) (.cons (.ex (.met .append (.var 3) (.cons (.met .pop (.var 2) (.cons (.call n (.cons (.var 0) (.cons (.blt .len (.cons (.var 2) .nil)) .nil))) .nil)) .nil)))
  .nil))
  (.cons (.ret (.var 3))
  .nil))))
theorem rngD_len (lo hi : Int) : (rngD lo hi).length = (hi - lo).toNat := by
  unfold rngD
  rw [List.length_map, List.length_range]
theorem perm_erase {α : Type} : ∀ (ls : List α) (i : Nat) (h : i < ls.length), (ls[i] :: ls.eraseIdx i).Perm ls
  | [], _, h => by simp at h
  | a :: as, 0, _ => List.Perm.refl _
  | a :: as, i + 1, h => by
    have h' : i < as.length := by simpa using h
    show (as[i] :: a :: as.eraseIdx i).Perm (a :: as)
    exact (List.Perm.swap _ _ _).trans (List.Perm.cons a (perm_erase as i h'))
theorem val_shuf (hT : Γ n = vTake) : Val Γ spShuf (irShuf n) 5 := by
  show ∀ ds : List D, ds.length ≤ lim → _
  rintro ds hl
  have el : lim = 1000000 := rfl
  show wSs Γ (irShuf n) [.val .tok, .val (.lst ds), .un, .un, .un] _ _
  conv => whnf
  refine ⟨by omega, ?_⟩
  conv => whnf
  refine forL_inv (fun rs ρ => ∃ (ls fs : List D) (s : Slot), ρ = [.val .tok, .val (.lst ds), .own (.lst ls), .own (.lst fs), s] ∧ ls.length = rs.length ∧ (fs ++ ls).Perm ds) (fun ρ h => ?_) (fun d rs ρ nx bk h hn hb => ?_) _ _ ⟨ds, [], .un, rfl, ?_, List.Perm.refl _⟩
  · obtain ⟨ls, fs, s, rfl, h1, h2⟩ := h
    have : ls = [] := List.length_eq_zero_iff.mp h1
    subst this
    rw [List.append_nil] at h2
    exact ⟨rfl, fs, rfl, h2⟩
  · obtain ⟨ls, fs, s, rfl, h1, h2⟩ := h
    have hlen : fs.length + ls.length = ds.length := by rw [← List.length_append]; exact h2.length_eq
    rw [List.length_cons] at h1
    conv => whnf
    refine ⟨.inl rfl, ?_⟩
    conv => whnf
    refine take_run hT (lim_log (by omega)) fun r h0 hr => ?_
    have hrl : r < ls.length := by omega
    obtain ⟨z, _, hz⟩ := atI_nat h0 hrl
    conv => whnf
    refine ⟨.inl rfl, ?_⟩
    conv => whnf
    refine ⟨⟨rfl, h0, by omega⟩, ?_⟩
    refine ⟨z, hz, ?_⟩
    conv => whnf
    refine ⟨.inl rfl, ?_⟩
    conv => whnf
    refine ⟨⟨rfl, by omega⟩, ?_⟩
    refine hn _ ⟨ls.eraseIdx r.toNat, fs ++ [z], .val d, rfl, ?_, ?_⟩
    · rw [List.length_eraseIdx_of_lt (by omega)]
      omega
    · refine List.Perm.trans ?_ h2
      rw [List.append_assoc]
      refine List.Perm.append_left fs ?_
      have hlt : r.toNat < ls.length := by omega
      have ez : z = ls[r.toNat] := by
        rw [List.getElem?_eq_getElem hlt] at hz
        exact (Option.some.inj hz).symm
      rw [ez]
      exact perm_erase ls _ hlt
  · rw [rngD_len]
    omega
theorem shuf_run (hP : Γ m = spShuf) {ds : List D} {K : Bool → D → Prop} {E : Exc → Prop} (hl : ds.length ≤ lim) (h : ∀ es : List D, es.Perm ds → K true (.lst es)) : (Γ m).run [.tok, .lst ds] K E := by
  rw [hP]
  exact run_of (s := spShuf) ds rfl hl (fun o d hp => by obtain ⟨rfl, es, rfl, h1⟩ := hp; exact h es h1) (fun e z => z.elim)
theorem nat_run (hP : Γ m = spNat) {t : Int} {K : Bool → D → Prop} {E : Exc → Prop} (h0 : 0 ≤ t) (ht : t < 2 ^ 8000) (h : ∀ r : Int, 0 ≤ r → r ≤ t → K false (.int r)) : (Γ m).run [.tok, .int t] K E := by
  rw [hP]
  exact run_of (s := spNat) t rfl ⟨h0, ht⟩ (fun o d hp => by obtain ⟨rfl, r, rfl, h1, h2⟩ := hp; exact h r h1 h2) (fun e z => z.elim)
/-! ### _law_unique -/
def uniq : List D → List D → List D
  | [], acc => acc
  | d :: ds, acc => uniq ds (if inF d acc then acc else acc ++ [d])
theorem uniq_cons {d : D} {ds acc : List D} : uniq (d :: ds) acc = uniq ds (if inF d acc = true then acc else acc ++ [d]) := rfl
def spUniq : VSp := .det (α := List D) (fun x => [.lst x]) (fun x => x.all D.flat = true ∧ x.length ≤ lim) true fun x => .lst (uniq x [])
def irUniq : VSs := (.cons (.asg (.nm 1) (.lst .nil))
  (.cons (.forS (.nm 2) (.it (.blt .list (.cons (.var 0) .nil))) (.cons (.ifS (.tv (.cmp .NotIn (.var 2) (.var 1))) (.cons (.ex (.met .append (.var 1) (.cons (.var 2) .nil)))
  .nil) .nil)
  .nil))
  (.cons (.ret (.var 1))
  .nil)))
theorem val_uniq : Val Γ spUniq irUniq 3 := by
  show ∀ ds : List D, ds.all D.flat = true ∧ ds.length ≤ lim → _
  rintro ds ⟨hf, hl⟩
  have el : lim = 1000000 := rfl
  show wSs Γ irUniq [.val (.lst ds), .un, .un] _ _
  conv => whnf
  refine forL_inv (fun rs ρ => ∃ (acc : List D) (s : Slot), ρ = [.val (.lst ds), .own (.lst acc), s] ∧ uniq ds [] = uniq rs acc ∧ acc.all D.flat = true ∧ rs.all D.flat = true ∧ acc.length + rs.length ≤ lim) (fun ρ h => ?_) (fun d rs ρ nx bk h hn hb => ?_) _ _ ⟨[], .un, rfl, rfl, rfl, hf, by show 0 + _ ≤ _; omega⟩
  · obtain ⟨acc, s, rfl, h1, _⟩ := h
    exact ⟨rfl, by rw [show D.lst acc = .lst (uniq ds []) by rw [h1] <;> rfl]⟩
  · obtain ⟨acc, s, rfl, h1, h2, h3, h4⟩ := h
    rw [List.all_cons, Bool.and_eq_true] at h3
    rw [List.length_cons] at h4
    have key : wSs Γ (.cons (.ifS (.tv (.cmp .NotIn (.var 2) (.var 1))) (.cons (.ex (.met .append (.var 1) (.cons (.var 2) .nil))) .nil) .nil) .nil) [.val (.lst ds), .own (.lst acc), .val d] { nx := nx, rt := spUniq.post ds, bk := bk, ct := nx } fun e _ => spUniq.exc ds e := by
      cases hc : inF d acc with
      | false =>
        have hn' := hn [.val (.lst ds), .own (.lst (acc ++ [d])), .val d] ⟨_, _, rfl, by rw [h1, uniq_cons, hc]; rfl, by rw [List.all_append, h2, List.all_cons, h3.1] <;> rfl, h3.2, by rw [List.length_append, List.length_singleton]; omega⟩
        cases d <;> first | (cases h3.1; done) | skip
        all_goals
          conv => whnf
          refine ⟨rfl, h2, fun h => ?_, fun h => ?_⟩
          · conv => whnf
            refine ⟨.inl rfl, ?_⟩
            conv => whnf
            exact ⟨⟨rfl, by omega⟩, hn'⟩
          · first | (rw [show ∀ x : D, (R.val x).d = x from fun _ => rfl, hc] at h) | (rw [hc] at h)
            cases h
      | true =>
        have hn' := hn [.val (.lst ds), .own (.lst acc), .val d] ⟨acc, _, rfl, by rw [h1, uniq_cons, hc]; rfl, h2, h3.2, by omega⟩
        cases d <;> first | (cases h3.1; done) | skip
        all_goals
          conv => whnf
          refine ⟨rfl, h2, fun h => ?_, fun h => hn'⟩
          first | (rw [show ∀ x : D, (R.val x).d = x from fun _ => rfl, hc] at h) | (rw [hc] at h)
          cases h
    exact key
theorem uniq_run (hP : Γ m = spUniq) {ds : List D} {K : Bool → D → Prop} {E : Exc → Prop} (hf : ds.all D.flat = true) (hl : ds.length ≤ lim) (h : K true (.lst (uniq ds []))) : (Γ m).run [.lst ds] K E := by
  rw [hP]
  exact run_det (α := List D) ds rfl ⟨hf, hl⟩ h
/-! ### _law_kind, _law_same -/
def kindS : D → Option Str
  | .non => some "none"
  | .bl _ => some "bool"
  | .int _ => some "int"
  | .str _ => some "text"
  | .lst _ => some "list"
  | .tup _ => some "tuple"
  | _ => none
def spKind : VSp := ⟨D, fun d => [d], fun d => (kindS d).isSome = true, fun d o e => o = false ∧ ∃ s, kindS d = some s ∧ e = .str s, fun _ _ => False⟩
def irKind : VSs := (.cons (.ifS (.tv (.cmp .Is (.var 0) (.cst .non))) (.cons (.ret (.cst (.str "none")))
  .nil) .nil)
  (.cons (.ifS (.tv (.isin (.var 0) (.bi "bool"))) (.cons (.ret (.cst (.str "bool")))
  .nil) .nil)
  (.cons (.ifS (.tv (.isin (.var 0) (.bi "int"))) (.cons (.ret (.cst (.str "int")))
  .nil) .nil)
  (.cons (.ifS (.tv (.isin (.var 0) (.bi "str"))) (.cons (.ret (.cst (.str "text")))
  .nil) .nil)
  (.cons (.ifS (.tv (.isin (.var 0) (.bi "list"))) (.cons (.ret (.cst (.str "list")))
  .nil) .nil)
  (.cons (.ifS (.tv (.isin (.var 0) (.bi "tuple"))) (.cons (.ret (.cst (.str "tuple")))
  .nil) .nil)
  (.cons (.ifS (.tv (.isin (.var 0) (.bi "dict"))) (.cons (.ret (.cst (.str "dict")))
  .nil) .nil)
  (.cons (.ret (.cst (.str "other")))
  .nil))))))))
theorem val_kind : Val Γ spKind irKind 1 := by
  show ∀ d : D, (kindS d).isSome = true → _
  intro d hd
  show wSs Γ irKind [.val d] _ _
  cases d <;> first | (cases hd; done) | skip
  case non =>
    conv => whnf
    exact ⟨fun _ => ⟨rfl, _, rfl, rfl⟩, fun h => by cases h⟩
  all_goals
    repeat
      conv => whnf
      first
      | exact ⟨rfl, _, rfl, rfl⟩
      | refine ⟨fun h => ?_, fun h => ?_⟩
      all_goals first | (exact ⟨rfl, _, rfl, rfl⟩) | (exfalso; revert h; decide) | skip
theorem kind_run (hP : Γ m = spKind) {d : D} {s : Str} {K : Bool → D → Prop} {E : Exc → Prop} (hd : kindS d = some s) (h : K false (.str s)) : (Γ m).run [d] K E := by
  rw [hP]
  exact run_of (s := spKind) d rfl (by show (kindS d).isSome = true; rw [hd] <;> rfl) (fun o e hp => by obtain ⟨rfl, s', h1, rfl⟩ := hp; rw [hd] at h1; cases h1; exact h) (fun e z => z.elim)
mutual
/-- plain data: how many nodes -/
def sz : D → Nat
  | .lst ds => szs ds + 1
  | .tup ds => szs ds + 1
  | _ => 1
def szs : List D → Nat
  | [] => 0
  | d :: ds => sz d + szs ds
end
mutual
def plainD : D → Bool
  | .non => true
  | .bl _ => true
  | .int _ => true
  | .str s => decide (s.length ≤ lim)
  | .lst ds => plainDs ds
  | .tup ds => plainDs ds
  | _ => false
def plainDs : List D → Bool
  | [] => true
  | d :: ds => plainD d && plainDs ds
end
theorem szs_app : ∀ (a b : List D), szs (a ++ b) = szs a + szs b
  | [], b => by rw [List.nil_append, szs, Nat.zero_add]
  | d :: a, b => by rw [List.cons_append, szs, szs, szs_app a b]; omega
theorem plainDs_app : ∀ (a b : List D), plainDs (a ++ b) = (plainDs a && plainDs b)
  | [], b => by rw [List.nil_append, plainDs, Bool.true_and]
  | d :: a, b => by rw [List.cons_append, plainDs, plainDs, plainDs_app a b, Bool.and_assoc]
theorem sz_pos : ∀ d : D, 1 ≤ sz d := fun d => by cases d <;> (unfold sz; omega)
theorem szs_len : ∀ ds : List D, ds.length ≤ szs ds
  | [] => Nat.zero_le _
  | d :: ds => by
    rw [List.length_cons, szs]
    have := szs_len ds
    have := sz_pos d
    omega
theorem plain_mem : ∀ {ds : List D} {d : D}, plainDs ds = true → d ∈ ds → plainD d = true
  | e :: ds, d, h, hm => by
    rw [plainDs, Bool.and_eq_true] at h
    rcases List.mem_cons.mp hm with rfl | hm
    · exact h.1
    · exact plain_mem h.2 hm
theorem plain_kind {d : D} (h : plainD d = true) : ∃ s, kindS d = some s := by
  cases d <;> first | exact ⟨_, rfl⟩ | (unfold plainD at h; cases h)
def spSame : VSp := .det (α := D) (fun x => [x, x]) (fun x => plainD x = true ∧ sz x ≤ 100000) false fun _ => .bl true
def irSame (n : Nat) : VSs := (.cons (.asg (.nm 2) (.lst (.cons (.tup (.cons (.var 0) (.cons (.var 1) .nil))) .nil)))
  (.cons (.forS (.nm 3) (.rng (.cons (.cst (.int 100001)) .nil)) (.cons (.ifS (.tv (.cmp .Eq (.blt .len (.cons (.var 2) .nil)) (.cst (.int 0)))) (.cons (.ret (.cst (.bl true)))
  .nil) .nil)
  (.cons (.asg (.tp (.cons (.nm 4) (.cons (.nm 5) .nil))) (.met .pop (.var 2) .nil))
  (.cons (.asg (.nm 6) (.call n (.cons (.var 5) .nil)))
  (.cons (.ifS (.tor (.tv (.cmp .Eq (.var 6) (.cst (.str "other")))) (.tv (.cmp .NotEq (.call n (.cons (.var 4) .nil)) (.var 6)))) (.cons (.ret (.cst (.bl false)))
  .nil) .nil)
  (.cons (.ifS (.tor (.tv (.cmp .Eq (.var 6) (.cst (.str "list")))) (.tv (.cmp .Eq (.var 6) (.cst (.str "tuple"))))) (.cons (.ifS (.tv (.cmp .NotEq (.blt .len (.cons (.var 4) .nil)) (.blt .len (.cons (.var 5) .nil)))) (.cons (.ret (.cst (.bl false)))
  .nil) .nil)
  (.cons (.forS (.nm 7) (.rng (.cons (.blt .len (.cons (.var 5) .nil)) .nil)) (.cons (.ex (.met .append (.var 2) (.cons (.tup (.cons (.ix (.var 4) (.var 7)) (.cons (.ix (.var 5) (.var 7)) .nil))) .nil)))
  .nil))
  .nil)) (.cons (.ifS (.tv (.cmp .Eq (.var 6) (.cst (.str "dict")))) (.cons (.ifS (.tv (.cmp .NotEq (.blt .len (.cons (.var 4) .nil)) (.blt .len (.cons (.var 5) .nil)))) (.cons (.ret (.cst (.bl false)))
  .nil) .nil)
  (.cons (.forS (.nm 8) (.it (.blt .list (.cons (.var 4) .nil))) (.cons (.ifS (.tor (.tv (.cmp .Eq (.call n (.cons (.var 8) .nil)) (.cst (.str "bool")))) (.tv (.cmp .NotIn (.var 8) (.var 5)))) (.cons (.ret (.cst (.bl false)))
  .nil) .nil)
  (.cons (.ex (.met .append (.var 2) (.cons (.tup (.cons (.ix (.var 4) (.var 8)) (.cons (.ix (.var 5) (.var 8)) .nil))) .nil)))
  .nil)))
  .nil)) (.cons (.ifS (.tv (.cmp .NotEq (.var 4) (.var 5))) (.cons (.ret (.cst (.bl false)))
  .nil) .nil)
  .nil))
  .nil))
  .nil))))))
  (.cons (.ret (.cst (.bl false)))
  .nil)))
theorem rngD_cons {j n : Nat} (h : j < n) : rngD (j : Nat) (n : Nat) = .int (j : Nat) :: rngD ((j + 1 : Nat) : Int) (n : Nat) := by
  unfold rngD
  have e1 : ((n : Int) - (j : Nat)).toNat = (n - (j + 1)) + 1 := by omega
  have e2 : ((n : Int) - ((j + 1 : Nat) : Int)).toNat = n - (j + 1) := by omega
  rw [e1, e2, List.range_succ_eq_map, List.map_cons, List.map_map]
  have e3 : D.int ((j : Int) + ((0 : Nat) : Int)) = .int (j : Nat) := by rw [Int.natCast_zero, Int.add_zero]
  have e4 : (List.range (n - (j + 1))).map ((fun (k : Nat) => D.int ((j : Int) + (k : Nat))) ∘ Nat.succ) = (List.range (n - (j + 1))).map fun (k : Nat) => D.int (((j + 1 : Nat) : Int) + (k : Nat)) := by
    refine List.map_congr_left fun i _ => ?_
    show D.int ((j : Int) + ((i + 1 : Nat) : Int)) = .int (((j + 1 : Nat) : Int) + (i : Nat))
    rw [show (j : Int) + ((i + 1 : Nat) : Int) = ((j + 1 : Nat) : Int) + (i : Nat) by omega]
  rw [e4]
  exact congrArg (fun z => z :: _) e3
theorem rngD_nil {n : Nat} : rngD (n : Nat) (n : Nat) = [] := by
  unfold rngD
  rw [Int.sub_self] <;> rfl
def prs (ys : List D) : List D := ys.map fun y => .tup [y, y]
theorem prs_len (ys : List D) : (prs ys).length = ys.length := by unfold prs; rw [List.length_map]
/-- the children are laid on the heap of pairs -/
theorem val_same (hK : Γ n = spKind) : Val Γ spSame (irSame n) 9 := by
  show ∀ x : D, plainD x = true ∧ sz x ≤ 100000 → _
  rintro x ⟨hp, hz⟩
  have el : lim = 1000000 := rfl
  show wSs Γ (irSame n) [.val x, .val x, .un, .un, .un, .un, .un, .un, .un] _ _
  conv => whnf
  refine ⟨by decide, ?_⟩
  have hrl : (rngD 0 100001).length = 100001 := by rw [rngD_len] <;> decide
  generalize rngD 0 100001 = rs0 at hrl
  conv => whnf
  refine forL_inv (fun rs ρ => ∃ (ys : List D) (s3 s4 s5 s6 s7 s8 : Slot), ρ = [.val x, .val x, .own (.lst (prs ys)), s3, s4, s5, s6, s7, s8] ∧ plainDs ys = true ∧ szs ys + 1 ≤ rs.length ∧ rs.length ≤ 100001) (fun ρ h => ?_) (fun d rs ρ nx bk h hn hb => ?_) _ _ ⟨[x], .un, .un, .un, .un, .un, .un, rfl, by unfold plainDs plainDs; rw [hp] <;> rfl, ?_, by omega⟩
  · obtain ⟨ys, s3, s4, s5, s6, s7, s8, rfl, h1, h2⟩ := h
    rw [List.length_nil] at h2
    have := h2.1
    omega
  · obtain ⟨ys, s3, s4, s5, s6, s7, s8, rfl, h1, h2⟩ := h
    rw [List.length_cons] at h2
    conv => whnf
    refine ⟨.inl rfl, ?_⟩
    conv => whnf
    refine ⟨fun h => ⟨rfl, rfl⟩, fun h => ?_⟩
    have hne : ys ≠ [] := fun z => by subst z; exact absurd h (by decide)
    obtain ⟨zs, y, rfl⟩ : ∃ zs y, ys = zs ++ [y] := ⟨ys.dropLast, ys.getLast hne, (List.dropLast_concat_getLast hne).symm⟩
    obtain ⟨h2, h3⟩ := h2
    rw [szs_app] at h2
    rw [plainDs_app, Bool.and_eq_true] at h1
    have hy : plainD y = true := by have := h1.2; rw [plainDs, Bool.and_eq_true] at this; exact this.1
    have hz2 : szs [y] = sz y := by rw [szs, szs, Nat.add_zero]
    have epr : prs (zs ++ [y]) = prs zs ++ [.tup [y, y]] := by unfold prs; rw [List.map_append] <;> rfl
    rw [epr]
    conv => whnf
    refine ⟨.inl rfl, ?_⟩
    conv => whnf
    refine ⟨rfl, .tup [y, y], ?_, ?_⟩
    · rw [List.length_append, List.length_singleton, Nat.add_sub_cancel, List.getElem?_append_right (Nat.le_refl _), Nat.sub_self] <;> rfl
    rw [List.dropLast_concat]
    conv => whnf
    have again : ∀ (cs : List D) (s3 s4 s5 s6 s7 s8 : Slot), plainDs cs = true → szs cs + 1 ≤ sz y → nx [.val x, .val x, .own (.lst (prs zs ++ prs cs)), s3, s4, s5, s6, s7, s8] := fun cs s3 s4 s5 s6 s7 s8 hc1 hc2 =>
      hn _ ⟨zs ++ cs, s3, s4, s5, s6, s7, s8, by unfold prs; rw [List.map_append], by rw [plainDs_app, h1.1, hc1] <;> rfl, by rw [szs_app]; omega, by omega⟩
    have leaf : ∀ (s3 s4 s5 s6 s7 s8 : Slot), nx [.val x, .val x, .own (.lst (prs zs)), s3, s4, s5, s6, s7, s8] := fun s3 s4 s5 s6 s7 s8 => by
      have := again [] s3 s4 s5 s6 s7 s8 rfl (by have := sz_pos y; rw [szs]; omega)
      rw [show prs zs ++ prs [] = prs zs from List.append_nil _] at this
      exact this
    have hlen : szs zs + sz y ≤ 100000 := by omega
    cases y <;> first | (unfold plainD at hy; cases hy; done) | skip
    case non =>
      refine kind_run hK rfl ?_
      conv => whnf
      refine ⟨fun h => absurd h (by decide), fun _ => ?_⟩
      conv => whnf
      refine kind_run hK rfl ?_
      conv => whnf
      refine ⟨fun h => absurd h (by decide), fun _ => ?_⟩
      conv => whnf
      refine ⟨fun h => absurd h (by decide), fun _ => ?_⟩
      conv => whnf
      refine ⟨fun h => absurd h (by decide), fun _ => ?_⟩
      conv => whnf
      refine ⟨fun h => absurd h (by decide), fun _ => ?_⟩
      conv => whnf
      refine ⟨fun h => absurd h (by decide), fun _ => ?_⟩
      exact leaf _ _ _ _ _ _
    case bl b =>
      refine kind_run hK rfl ?_
      conv => whnf
      refine ⟨fun h => absurd h (by decide), fun _ => ?_⟩
      conv => whnf
      refine kind_run hK rfl ?_
      conv => whnf
      refine ⟨fun h => absurd h (by decide), fun _ => ?_⟩
      conv => whnf
      refine ⟨fun h => absurd h (by decide), fun _ => ?_⟩
      conv => whnf
      refine ⟨fun h => absurd h (by decide), fun _ => ?_⟩
      conv => whnf
      refine ⟨fun h => absurd h (by decide), fun _ => ?_⟩
      conv => whnf
      refine ⟨fun h => absurd h (by simp), fun _ => ?_⟩
      exact leaf _ _ _ _ _ _
    case int i =>
      refine kind_run hK rfl ?_
      conv => whnf
      refine ⟨fun h => absurd h (by decide), fun _ => ?_⟩
      conv => whnf
      refine kind_run hK rfl ?_
      conv => whnf
      refine ⟨fun h => absurd h (by decide), fun _ => ?_⟩
      conv => whnf
      refine ⟨fun h => absurd h (by decide), fun _ => ?_⟩
      conv => whnf
      refine ⟨fun h => absurd h (by decide), fun _ => ?_⟩
      conv => whnf
      refine ⟨fun h => absurd h (by decide), fun _ => ?_⟩
      conv => whnf
      refine ⟨fun h => absurd h (by simp), fun _ => ?_⟩
      exact leaf _ _ _ _ _ _
    case str z =>
      refine kind_run hK rfl ?_
      conv => whnf
      refine ⟨fun h => absurd h (by decide), fun _ => ?_⟩
      conv => whnf
      refine kind_run hK rfl ?_
      conv => whnf
      refine ⟨fun h => absurd h (by decide), fun _ => ?_⟩
      conv => whnf
      refine ⟨fun h => absurd h (by decide), fun _ => ?_⟩
      conv => whnf
      refine ⟨fun h => absurd h (by decide), fun _ => ?_⟩
      conv => whnf
      refine ⟨fun h => absurd h (by decide), fun _ => ?_⟩
      conv => whnf
      refine ⟨fun h => absurd h (by simp), fun _ => ?_⟩
      exact leaf _ _ _ _ _ _
    case lst ds =>
      refine kind_run hK rfl ?_
      conv => whnf
      refine ⟨fun h => absurd h (by decide), fun _ => ?_⟩
      conv => whnf
      refine kind_run hK rfl ?_
      conv => whnf
      refine ⟨fun h => absurd h (by decide), fun _ => ?_⟩
      conv => whnf
      refine ⟨fun _ => ?_, fun h => absurd h (by decide)⟩
      refine ⟨fun _ => ?_, fun h => by cases h⟩
      conv => whnf
      refine ⟨fun h => absurd h (by simp), fun _ => ?_⟩
      have hdl : ds.length ≤ 100000 := by
        have := szs_len ds
        have e : sz (.lst ds) = szs ds + 1 := by rw [sz]
        omega
      have hcs : plainDs ds = true := by rw [plainD] at hy; exact hy
      have e : sz (.lst ds) = szs ds + 1 := by rw [sz]
      conv => whnf
      refine ⟨by constructor <;> omega, ?_⟩
      conv => whnf
      refine forL_inv (fun rs' ρ => ∃ (j : Nat) (s7 : Slot), j ≤ ds.length ∧ rs' = rngD (j : Nat) (ds.length : Nat) ∧ ρ = [.val x, .val x, .own (.lst (prs zs ++ prs (ds.take j))), .val d, .val (.lst ds), .val (.lst ds), .val (.str "list"), s7, s8]) (fun ρ hq => ?_) (fun d0 rs' ρ nx' bk' hq hn' hb' => ?_) _ _ ⟨0, s7, Nat.zero_le _, rfl, by rw [List.take_zero, show prs [] = [] from rfl, List.append_nil] <;> rfl⟩
      · obtain ⟨j, s7, hj, hr, rfl⟩ := hq
        have hl' := congrArg List.length hr
        rw [rngD_len, List.length_nil] at hl'
        have ej : j = ds.length := by omega
        subst ej
        rw [List.take_length]
        exact again ds _ _ _ _ _ _ hcs (by omega)
      · obtain ⟨j, s7, hj, hr, rfl⟩ := hq
        have hl' := congrArg List.length hr
        rw [rngD_len, List.length_cons] at hl'
        have hjl : j < ds.length := by omega
        rw [rngD_cons hjl] at hr
        cases hr
        conv => whnf
        have hat : L2.atI ds ((j : Nat) : Int) = some ds[j] := by
          unfold L2.atI L2.ixN
          rw [if_pos (by omega), if_pos (by omega)]
          show ds[((j : Nat) : Int).toNat]? = _
          rw [Int.toNat_natCast]
          exact List.getElem?_eq_getElem hjl
        refine ⟨_, hat, ?_⟩
        conv => whnf
        refine ⟨_, hat, ?_⟩
        conv => whnf
        refine ⟨.inl rfl, ?_⟩
        conv => whnf
        refine ⟨⟨rfl, ?_⟩, ?_⟩
        · have := szs_len zs
          rw [List.length_append, prs_len, prs_len, List.length_take]
          omega
        · refine hn' _ ⟨j + 1, .val (.int (j : Nat)), hjl, rfl, ?_⟩
          rw [List.take_add_one, List.getElem?_eq_getElem hjl]
          show _ = [Slot.val x, .val x, .own (.lst (prs zs ++ prs (ds.take j ++ [ds[j]]))), .val d, .val (.lst ds), .val (.lst ds), .val (.str "list"), .val (.int (j : Nat)), s8]
          rw [show prs (ds.take j ++ [ds[j]]) = prs (ds.take j) ++ [.tup [ds[j], ds[j]]] by unfold prs; rw [List.map_append] <;> rfl, ← List.append_assoc]
          rfl
    case tup ds =>
      refine kind_run hK rfl ?_
      conv => whnf
      refine ⟨fun h => absurd h (by decide), fun _ => ?_⟩
      conv => whnf
      refine kind_run hK rfl ?_
      conv => whnf
      refine ⟨fun h => absurd h (by decide), fun _ => ?_⟩
      conv => whnf
      refine ⟨fun h => absurd h (by decide), fun _ => ?_⟩
      conv => whnf
      refine ⟨fun _ => ?_, fun h => absurd h (by decide)⟩
      conv => whnf
      refine ⟨fun h => absurd h (by simp), fun _ => ?_⟩
      have hdl : ds.length ≤ 100000 := by
        have := szs_len ds
        have e : sz (.tup ds) = szs ds + 1 := by rw [sz]
        omega
      have hcs : plainDs ds = true := by rw [plainD] at hy; exact hy
      have e : sz (.tup ds) = szs ds + 1 := by rw [sz]
      conv => whnf
      refine ⟨by constructor <;> omega, ?_⟩
      conv => whnf
      refine forL_inv (fun rs' ρ => ∃ (j : Nat) (s7 : Slot), j ≤ ds.length ∧ rs' = rngD (j : Nat) (ds.length : Nat) ∧ ρ = [.val x, .val x, .own (.lst (prs zs ++ prs (ds.take j))), .val d, .val (.tup ds), .val (.tup ds), .val (.str "tuple"), s7, s8]) (fun ρ hq => ?_) (fun d0 rs' ρ nx' bk' hq hn' hb' => ?_) _ _ ⟨0, s7, Nat.zero_le _, rfl, by rw [List.take_zero, show prs [] = [] from rfl, List.append_nil] <;> rfl⟩
      · obtain ⟨j, s7, hj, hr, rfl⟩ := hq
        have hl' := congrArg List.length hr
        rw [rngD_len, List.length_nil] at hl'
        have ej : j = ds.length := by omega
        subst ej
        rw [List.take_length]
        exact again ds _ _ _ _ _ _ hcs (by omega)
      · obtain ⟨j, s7, hj, hr, rfl⟩ := hq
        have hl' := congrArg List.length hr
        rw [rngD_len, List.length_cons] at hl'
        have hjl : j < ds.length := by omega
        rw [rngD_cons hjl] at hr
        cases hr
        conv => whnf
        have hat : L2.atI ds ((j : Nat) : Int) = some ds[j] := by
          unfold L2.atI L2.ixN
          rw [if_pos (by omega), if_pos (by omega)]
          show ds[((j : Nat) : Int).toNat]? = _
          rw [Int.toNat_natCast]
          exact List.getElem?_eq_getElem hjl
        refine ⟨_, hat, ?_⟩
        conv => whnf
        refine ⟨_, hat, ?_⟩
        conv => whnf
        refine ⟨.inl rfl, ?_⟩
        conv => whnf
        refine ⟨⟨rfl, ?_⟩, ?_⟩
        · have := szs_len zs
          rw [List.length_append, prs_len, prs_len, List.length_take]
          omega
        · refine hn' _ ⟨j + 1, .val (.int (j : Nat)), hjl, rfl, ?_⟩
          rw [List.take_add_one, List.getElem?_eq_getElem hjl]
          show _ = [Slot.val x, .val x, .own (.lst (prs zs ++ prs (ds.take j ++ [ds[j]]))), .val d, .val (.tup ds), .val (.tup ds), .val (.str "tuple"), .val (.int (j : Nat)), s8]
          rw [show prs (ds.take j ++ [ds[j]]) = prs (ds.take j) ++ [.tup [ds[j], ds[j]]] by unfold prs; rw [List.map_append] <;> rfl, ← List.append_assoc]
          rfl
  · have : szs [x] = sz x := by rw [szs, szs, Nat.add_zero]
    rw [this, hrl]
    omega
theorem same_run (hP : Γ m = spSame) {x y : D} {K : Bool → D → Prop} {E : Exc → Prop} (e : x = y) (hp : plainD x = true) (hz : sz x ≤ 100000) (h : K false (.bl true)) : (Γ m).run [x, y] K E := by
  rw [hP]
  subst e
  exact run_det (α := D) x rfl ⟨hp, hz⟩ h
def ilst (ms : List Int) : D := .lst (ms.map .int)
theorem plain_ints : ∀ ms : List Int, plainDs (ms.map .int) = true
  | [] => rfl
  | m :: ms => by rw [List.map_cons, plainDs, plain_ints ms] <;> rfl
theorem szs_ints : ∀ ms : List Int, szs (ms.map .int) = ms.length
  | [] => rfl
  | m :: ms => by
    rw [List.map_cons, szs, szs_ints ms, List.length_cons]
    have : sz (.int m) = 1 := rfl
    omega
theorem plain_ilst (ms : List Int) : plainD (ilst ms) = true := plain_ints ms
theorem sz_ilst (ms : List Int) : sz (ilst ms) = ms.length + 1 := by
  unfold ilst
  rw [sz, szs_ints]
theorem intsL {α : Type} {h : α → Int} : ∀ ms : List α, intsD (ms.map fun b => D.int (h b)) = some (ms.map h)
  | [] => rfl
  | m :: ms => by
    rw [List.map_cons, List.map_cons]
    unfold intsD
    rw [intsL ms] <;> rfl
def rgI (lo hi : Int) : List Int := (List.range (hi - lo).toNat).map fun (k : Nat) => lo + (k : Nat)
theorem rngD_ints (lo hi : Int) : rngD lo hi = (rgI lo hi).map .int := by
  unfold rngD rgI
  rw [List.map_map] <;> rfl
theorem rgI_mem {lo hi m : Int} (h : m ∈ rgI lo hi) : lo ≤ m ∧ m < hi := by
  unfold rgI at h
  obtain ⟨k, hk, rfl⟩ := List.mem_map.mp h
  have := List.mem_range.mp hk
  omega
theorem rgI_len (lo hi : Int) : (rgI lo hi).length = (hi - lo).toNat := by
  unfold rgI
  rw [List.length_map, List.length_range]
/-- a comprehension of drawn numbers -/
theorem compL_draw {own : List Nat} {step : D → En → EK → (En → Prop) → Prop} {K : List D → En → Prop} (p : Int → Prop) {ρ : En} (ρd : D → En) (hw : ∀ d, wipeV own (ρd d) = ρ) (rs : List D) (hl : rs.length ≤ lim)
    (hs : ∀ d ∈ rs, ∀ (Ka : EK) (Ks : En → Prop), (∀ r, p r → Ka (.val (.int r)) (ρd d)) → step d ρ Ka Ks) (hk : ∀ ms : List Int, ms.length = rs.length → (∀ m ∈ ms, p m) → K (ms.map .int) ρ) : compL own step rs [] ρ K := by
  have main : ∀ (ds : List D) (ms : List Int), (∀ d ∈ ds, d ∈ rs) → ms.length + ds.length = rs.length → (∀ m ∈ ms, p m) → compL own step ds (ms.map .int) ρ K := by
    intro ds
    induction ds with
    | nil => exact fun ms _ h1 h2 => hk ms (by simpa using h1) h2
    | cons d ds ih =>
      intro ms h0 h1 h2
      rw [List.length_cons] at h1
      refine hs d (h0 d List.mem_cons_self) _ _ fun r hr => ?_
      refine ⟨by rw [List.length_map]; omega, ?_⟩
      show compL own step ds (ms.map .int ++ [.int r]) (wipeV own (ρd d)) K
      rw [hw]
      have := ih (ms ++ [r]) (fun d' hd' => h0 d' (List.mem_cons_of_mem _ hd')) (by rw [List.length_append, List.length_singleton]; omega) fun m hm => by
        rcases List.mem_append.mp hm with hm | hm
        · exact h2 m hm
        · rw [List.mem_singleton.mp hm]; exact hr
      rw [List.map_append] at this
      exact this
  exact main rs [] (fun _ h => h) (by rw [List.length_nil, Nat.zero_add]) fun m hm => by cases hm
theorem perm_map {α β : Type} {f : α → β} {es l : List β} (h : es.Perm l) : ∀ xs : List α, l = xs.map f → ∃ ys : List α, es = ys.map f ∧ ys.Perm xs := by
  induction h with
  | nil =>
    intro xs e
    have : xs = [] := List.map_eq_nil_iff.mp e.symm
    subst this
    exact ⟨[], rfl, List.Perm.refl _⟩
  | cons a h ih =>
    intro xs e
    cases xs with
    | nil => cases e
    | cons x xs =>
      cases e
      obtain ⟨ys, rfl, hp⟩ := ih xs rfl
      exact ⟨x :: ys, rfl, hp.cons x⟩
  | swap a b l =>
    intro xs e
    match xs, e with
    | x :: y :: xs, e =>
      cases e
      exact ⟨y :: x :: xs, rfl, List.Perm.swap _ _ _⟩
  | trans h1 h2 ih1 ih2 =>
    intro xs e
    obtain ⟨ys, rfl, hp⟩ := ih2 xs e
    obtain ⟨zs, rfl, hq⟩ := ih1 ys rfl
    exact ⟨zs, rfl, hq.trans hp⟩
end
end VL
set_option maxHeartbeats 0
/-! VLv: sums of monomials: gathered rows. -/
namespace VL
open PySem PySem.Spec PyProof.Rows L2
abbrev Mono := List Int × Int
def rowD (r : Mono) : D := .tup [tupD r.1, .int r.2]
def rowsD (rs : List Mono) : D := .lst (rs.map rowD)
def coef : List Mono → List Int → Int
  | [], _ => 0
  | r :: rs, p => (if r.1 = p then r.2 else 0) + coef rs p
theorem coef_app : ∀ (a b : List Mono) (p : List Int), coef (a ++ b) p = coef a p + coef b p
  | [], b, p => by simp [coef]
  | r :: a, b, p => by
    show (if r.1 = p then r.2 else 0) + coef (a ++ b) p = (if r.1 = p then r.2 else 0) + coef a p + coef b p
    rw [coef_app a b p]; omega
theorem coef_no : ∀ {rs : List Mono} {p : List Int}, p ∉ rs.map (·.1) → coef rs p = 0
  | [], _, _ => rfl
  | r :: rs, p, h => by
    rw [List.map_cons, List.mem_cons, not_or] at h
    show (if r.1 = p then r.2 else 0) + coef rs p = 0
    rw [if_neg (fun z => h.1 z.symm), coef_no h.2]; rfl
theorem coef_mem : ∀ {rs : List Mono} {p : List Int} {c : Int}, (rs.map (·.1)).Nodup → (p, c) ∈ rs → coef rs p = c
  | r :: rs, p, c, hn, h => by
    rw [List.map_cons, List.nodup_cons] at hn
    show (if r.1 = p then r.2 else 0) + coef rs p = c
    rcases List.mem_cons.mp h with e | h
    · subst e
      rw [if_pos rfl, coef_no hn.1]; simp
    · have hp : p ∈ rs.map (·.1) := List.mem_map.mpr ⟨_, h, rfl⟩
      rw [if_neg (fun z => hn.1 (by rw [z]; exact hp)), coef_mem hn.2 h]; simp
def OkR (d : Nat) (B : Int) (rs : List Mono) : Prop := ∀ r ∈ rs, r.1.length = d ∧ TS.Bd B r.1
theorem OkR.app {d : Nat} {B : Int} {a b : List Mono} (h : OkR d B a) (k : OkR d B b) : OkR d B (a ++ b) := fun r hr => (List.mem_append.mp hr).elim (h r) (k r)
/-- out: the rows gathered, in order -/
def gatR (B : Int) (rs out : List Mono) : Prop := out.Pairwise (fun a b => TS.code B a.1 < TS.code B b.1) ∧ (∀ p c, (p, c) ∈ out ↔ c = coef rs p ∧ c ≠ 0) ∧ out.length ≤ rs.length
theorem srt_uniq {α : Type} (f : α → Int) : ∀ (a b : List α), a.Pairwise (fun x y => f x < f y) → b.Pairwise (fun x y => f x < f y) → (∀ x, x ∈ a ↔ x ∈ b) → a = b
  | [], [], _, _, _ => rfl
  | [], y :: b, _, _, h => absurd ((h y).mpr List.mem_cons_self) (by simp)
  | x :: a, [], _, _, h => absurd ((h x).mp List.mem_cons_self) (by simp)
  | x :: a, y :: b, ha, hb, h => by
    rw [List.pairwise_cons] at ha hb
    have e : x = y := by
      rcases List.mem_cons.mp ((h x).mp List.mem_cons_self) with e | hx
      · exact e
      · rcases List.mem_cons.mp ((h y).mpr List.mem_cons_self) with e | hy
        · exact e.symm
        · have := hb.1 x hx; have := ha.1 y hy; omega
    subst e
    rw [srt_uniq f a b ha.2 hb.2 fun z => ⟨fun hz => ?_, fun hz => ?_⟩]
    · rcases List.mem_cons.mp ((h z).mp (List.mem_cons_of_mem _ hz)) with e | q
      · subst e; exact absurd (ha.1 z hz) (Int.lt_irrefl _)
      · exact q
    · rcases List.mem_cons.mp ((h z).mpr (List.mem_cons_of_mem _ hz)) with e | q
      · subst e; exact absurd (hb.1 z hz) (Int.lt_irrefl _)
      · exact q
theorem gatR.uniq {B : Int} {rs rs' o o' : List Mono} (h : gatR B rs o) (h' : gatR B rs' o') (e : ∀ p, coef rs p = coef rs' p) : o = o' :=
  srt_uniq (fun r : Mono => TS.code B r.1) o o' h.1 h'.1 fun ⟨p, c⟩ => by rw [h.2.1, h'.2.1, e]
theorem gatR.nodup {B : Int} {rs o : List Mono} (h : gatR B rs o) : (o.map (·.1)).Nodup := by
  unfold List.Nodup
  rw [List.pairwise_map]
  exact h.1.imp fun {a b} q z => by rw [z] at q; exact absurd q (Int.lt_irrefl _)
theorem gatR.coef {B : Int} {rs o : List Mono} (h : gatR B rs o) (p : List Int) : coef o p = coef rs p := by
  by_cases hc : VL.coef rs p = 0
  · rw [hc]
    refine coef_no fun hp => ?_
    obtain ⟨⟨q, c⟩, hq, rfl⟩ := List.mem_map.mp hp
    obtain ⟨e1, e2⟩ := (h.2.1 _ _).mp hq
    rw [hc] at e1
    exact e2 e1
  · exact coef_mem h.nodup ((h.2.1 _ _).mpr ⟨rfl, hc⟩)
theorem gatR.ok {B : Int} {rs o : List Mono} {d : Nat} (h : gatR B rs o) (k : OkR d B rs) : OkR d B o := fun ⟨p, c⟩ hr => by
  obtain ⟨e1, e2⟩ := (h.2.1 _ _).mp hr
  have hp : p ∈ rs.map (·.1) := Classical.byContradiction fun z => e2 (by rw [e1, coef_no z])
  obtain ⟨r, hr, e⟩ := List.mem_map.mp hp
  have := k r hr
  rw [e] at this
  exact this
theorem gatR.app {B : Int} {a b oa ob o : List Mono} (ha : gatR B a oa) (hb : gatR B b ob) (h : gatR B (oa ++ ob) o) {o' : List Mono} (h' : gatR B (a ++ b) o') : o = o' :=
  h.uniq h' fun p => by rw [coef_app, coef_app, ha.coef, hb.coef]
theorem code_inj {B : Int} : ∀ {p q : List Int}, p.length = q.length → TS.Bd B p → TS.Bd B q → TS.code B p = TS.code B q → p = q
  | [], [], _, _, _, _ => rfl
  | [], _ :: _, l, _, _, _ => by simp at l
  | _ :: _, [], l, _, _, _ => by simp at l
  | a :: p, b :: q, l, hp, hq, e => by
    have l' : p.length = q.length := by simpa using l
    have e1 : a = b := by
      rcases Int.lt_trichotomy a b with h | h | h
      · have := TS.code_lt l' hp.tail hq.tail h; omega
      · exact h
      · have := TS.code_lt l'.symm hq.tail hp.tail h; omega
    subst e1
    have e : a * B ^ p.length + TS.code B p = a * B ^ q.length + TS.code B q := e
    rw [l'] at e
    rw [code_inj l' hp.tail hq.tail (by omega)]
/-! ### dicts by an injection of the keys -/
section
variable {α κ β : Type} [DecidableEq κ] [DecidableEq α] {e : α → κ}
theorem dget_map (he : ∀ a b, e a = e b → a = b) (f : α → β) (p : α) : ∀ ks : List α, dget (ks.map e) (ks.map f) (e p) = if p ∈ ks then some (f p) else none
  | [] => rfl
  | k :: ks => by
    show (if e k = e p then some (f k) else dget (ks.map e) (ks.map f) (e p)) = _
    by_cases h : k = p
    · subst h; rw [if_pos rfl, if_pos List.mem_cons_self]
    · rw [if_neg (fun z => h (he _ _ z)), dget_map he f p ks]
      by_cases hp : p ∈ ks
      · rw [if_pos hp, if_pos (List.mem_cons_of_mem _ hp)]
      · rw [if_neg hp, if_neg (by rw [List.mem_cons, not_or]; exact ⟨fun z => h z.symm, hp⟩)]
theorem mem_mapI (he : ∀ a b, e a = e b → a = b) {p : α} {ks : List α} : e p ∈ ks.map e ↔ p ∈ ks := by
  rw [List.mem_map]
  exact ⟨fun ⟨a, h, z⟩ => by rw [← he _ _ z]; exact h, fun h => ⟨p, h, rfl⟩⟩
theorem kput_map (he : ∀ a b, e a = e b → a = b) (p : α) (ks : List α) : kput (ks.map e) (e p) = (kput ks p).map e := by
  unfold kput
  by_cases h : p ∈ ks
  · rw [if_pos ((mem_mapI he).mpr h), if_pos h]
  · rw [if_neg (fun z => h ((mem_mapI he).mp z)), if_neg h, List.map_append]; rfl
theorem aset1_map (he : ∀ a b, e a = e b → a = b) (f : α → β) (p : α) (x : β) : ∀ ks : List α, aset1 (ks.map e) (ks.map f) (e p) x = ks.map fun q => if q = p then x else f q
  | [] => rfl
  | k :: ks => by
    show (if e k = e p then x else f k) :: aset1 (ks.map e) (ks.map f) (e p) x = _
    rw [aset1_map he f p x ks, List.map_cons]
    congr 1
    by_cases h : k = p
    · subst h; rw [if_pos rfl, if_pos rfl]
    · rw [if_neg (fun z => h (he _ _ z)), if_neg h]
theorem aset_map (he : ∀ a b, e a = e b → a = b) (f : α → β) (p : α) (x : β) (ks : List α) : aset (ks.map e) (ks.map f) (e p) x = (kput ks p).map fun q => if q = p then x else f q := by
  unfold aset kput
  by_cases h : p ∈ ks
  · rw [if_pos ((mem_mapI he).mpr h), if_pos h, aset1_map he]
  · rw [if_neg (fun z => h ((mem_mapI he).mp z)), if_neg h, List.map_append]
    congr 1
    · exact List.map_congr_left fun q hq => by rw [if_neg (fun z => h (by rw [← z]; exact hq))]
    · simp
theorem kput_nodup {p : α} {ks : List α} (h : ks.Nodup) : (kput ks p).Nodup := by
  unfold kput
  by_cases q : p ∈ ks
  · rw [if_pos q]; exact h
  · rw [if_neg q, List.nodup_append]
    exact ⟨h, by simp, fun a ha b hb z => by rw [List.mem_singleton] at hb; subst hb z; exact q ha⟩
theorem kput_mem {p q : α} {ks : List α} : q ∈ kput ks p ↔ q ∈ ks ∨ q = p := by
  unfold kput
  by_cases h : p ∈ ks
  · rw [if_pos h]; exact ⟨.inl, fun z => z.elim id fun z => by rw [z]; exact h⟩
  · rw [if_neg h, List.mem_append, List.mem_singleton]
theorem kput_len {p : α} {ks : List α} : (kput ks p).length ≤ ks.length + 1 := by
  unfold kput
  split
  · omega
  · rw [List.length_append]; exact Nat.le_refl _
end
def kk (p : List Int) : List L2.Key := p.map Sum.inl
theorem kk_inj : ∀ a b : List Int, kk a = kk b → a = b
  | [], [], _ => rfl
  | [], _ :: _, h => by cases h
  | _ :: _, [], h => by cases h
  | x :: a, y :: b, h => by
    unfold kk at h
    rw [List.map_cons, List.map_cons] at h
    injection h with h1 h2
    injection h1 with h1
    rw [h1, kk_inj a b h2]
theorem keys_tup : ∀ p : List Int, keysOf (p.map .int) = some (kk p)
  | [] => rfl
  | x :: p => by
    show (match keyOf (.int x), keysOf (p.map .int) with
    | some k, some ks => some (k :: ks)
    | _, _ => none) = _
    rw [keys_tup p]; rfl
theorem unkk (p : List Int) : (kk p).map keyD = p.map .int := by
  unfold kk
  rw [List.map_map]; rfl
/-- a comprehension over mapped things whose turns leave the state as it was -/
theorem compL_gen {α : Type} {own : List Nat} {step : D → En → EK → (En → Prop) → Prop} {K : List D → En → Prop} (e : α → D) (g : α → Bool) (f : α → D) {ρ : En} (ρd : α → En) (hw : ∀ d, wipeV own (ρd d) = ρ) : ∀ (ms : List α) (acc : List D), acc.length + ms.length ≤ lim →
    (∀ m ∈ ms, ∀ (Ka : EK) (Ks : En → Prop), (g m = true → Ka (.val (f m)) (ρd m)) → (g m = false → Ks (ρd m)) → step (e m) ρ Ka Ks) → K (acc ++ (ms.filter g).map f) ρ → compL own step (ms.map e) acc ρ K
  | [], acc, _, _, hk => by
    rw [List.filter_nil, List.map_nil, List.append_nil] at hk
    exact hk
  | m :: ms, acc, hl, hs, hk => by
    rw [List.length_cons] at hl
    refine hs m List.mem_cons_self _ _ (fun hc => ?_) (fun hc => ?_)
    · refine ⟨by omega, ?_⟩
      show compL own step (ms.map e) (acc ++ [f m]) (wipeV own (ρd m)) K
      rw [hw]
      refine compL_gen e g f ρd hw ms _ (by rw [List.length_append, List.length_singleton]; omega) (fun d' hd' => hs d' (List.mem_cons_of_mem _ hd')) ?_
      rw [List.filter_cons_of_pos hc, List.map_cons] at hk
      rw [List.append_assoc]
      exact hk
    · show compL own step (ms.map e) acc (wipeV own (ρd m)) K
      rw [hw]
      refine compL_gen e g f ρd hw ms _ (by omega) (fun d' hd' => hs d' (List.mem_cons_of_mem _ hd')) ?_
      rw [List.filter_cons_of_neg (by rw [hc]; decide)] at hk
      exact hk
/-- a loop over mapped things, by an invariant of done and left -/
theorem forL_gen {α : Type} {step : D → En → (En → Prop) → (En → Prop) → Prop} {K : En → Prop} (e : α → D) (ms : List α) (P : List α → List α → En → Prop) (h0 : ∀ ρ, P ms [] ρ → K ρ)
    (hs : ∀ done m rest ρ nx bk, ms = done ++ m :: rest → P done (m :: rest) ρ → (∀ ρ', P (done ++ [m]) rest ρ' → nx ρ') → (∀ ρ', K ρ' → bk ρ') → step (e m) ρ nx bk) {ρ : En} (h : P [] ms ρ) : forL step K (ms.map e) ρ := by
  have main : ∀ (rest done : List α) (ρ : En), ms = done ++ rest → P done rest ρ → forL step K (rest.map e) ρ := by
    intro rest
    induction rest with
    | nil =>
      intro done ρ he hp
      rw [List.append_nil] at he
      subst he
      exact h0 ρ hp
    | cons m rest ih =>
      intro done ρ he hp
      exact hs done m rest ρ _ _ he hp (fun ρ' h' => ih (done ++ [m]) ρ' (by rw [he, List.append_assoc]; rfl) h') fun _ h => h
  exact main ms [] ρ rfl h
/-- the dict of the sums -/
def dT (ks : List (List Int)) (rs : List Mono) : D := .dicT (ks.map kk) (ks.map fun p => .int (coef rs p))
structure Keys (ks : List (List Int)) (rs : List Mono) : Prop where
  nd : ks.Nodup
  mem : ∀ p, p ∈ ks ↔ p ∈ rs.map (·.1)
  len : ks.length ≤ rs.length
theorem Keys.put {ks : List (List Int)} {rs : List Mono} (h : Keys ks rs) (p : List Int) (c : Int) : Keys (kput ks p) (rs ++ [(p, c)]) := by
  refine ⟨kput_nodup h.nd, fun q => ?_, ?_⟩
  · rw [kput_mem, h.mem, List.map_append, List.mem_append]; simp
  · have := h.len; have := kput_len (p := p) (ks := ks); rw [List.length_append]; simp; omega
theorem dT_get {ks : List (List Int)} {rs : List Mono} (h : Keys ks rs) (p : List Int) : (dget (ks.map kk) (ks.map fun p => D.int (coef rs p)) (kk p)).getD (.int 0) = .int (coef rs p) := by
  rw [dget_map kk_inj]
  by_cases hp : p ∈ ks
  · rw [if_pos hp]; rfl
  · rw [if_neg hp, coef_no (fun z => hp ((h.mem p).mpr z))]; rfl
theorem dT_put {ks : List (List Int)} {rs : List Mono} (p : List Int) (c : Int) : D.dicT (kput (ks.map kk) (kk p)) (aset (ks.map kk) (ks.map fun p => D.int (coef rs p)) (kk p) (.int (coef rs p + c))) = dT (kput ks p) (rs ++ [(p, c)]) := by
  unfold dT
  rw [kput_map kk_inj, aset_map kk_inj]
  congr 1
  refine List.map_congr_left fun q _ => ?_
  rw [coef_app]
  show _ = D.int (coef rs q + ((if p = q then c else 0) + 0))
  by_cases hq : q = p
  · subst hq; rw [if_pos rfl, if_pos rfl]; simp
  · rw [if_neg hq, if_neg (fun z => hq z.symm)]; simp
theorem dT_ix {ks : List (List Int)} {rs : List Mono} {p : List Int} (h : p ∈ ks) : dget (ks.map kk) (ks.map fun p => D.int (coef rs p)) (kk p) = some (.int (coef rs p)) := by
  rw [dget_map kk_inj, if_pos h]
theorem pigeon {α : Type} [DecidableEq α] {l : List α} (h : l.Nodup) {x : α} (hx : ∀ y ∈ l, y = x) : l.length ≤ 1 := by
  match l, h with
  | [], _ => simp
  | [_], _ => simp
  | a :: b :: r, h =>
    have e1 := hx a (by simp)
    have e2 := hx b (by simp)
    rw [List.nodup_cons] at h
    exact absurd (by rw [e1, ← e2]; exact List.mem_cons_self) h.1
/-- what sorting the keys and leaving out the zeros gives -/
theorem gat_of {d : Nat} {B : Int} {rs : List Mono} {ks qs : List (List Int)} (hk : Keys ks rs) (ho : OkR d B rs) (hp : qs.Perm ks) (hs : qs.Pairwise fun p q => TS.code B p ≤ TS.code B q) :
    gatR B rs ((qs.filter fun p => decide (coef rs p ≠ 0)).map fun p => (p, coef rs p)) := by
  have hq : ∀ q ∈ qs, q.length = d ∧ TS.Bd B q := fun q h => by
    obtain ⟨r, hr, e⟩ := List.mem_map.mp ((hk.mem q).mp (hp.mem_iff.mp h))
    have := ho r hr
    rw [e] at this
    exact this
  refine ⟨?_, fun p c => ?_, ?_⟩
  · rw [List.pairwise_map]
    refine List.Pairwise.filter _ ?_
    have hn : qs.Nodup := hp.nodup_iff.mpr hk.nd
    refine (hs.and hn).imp_of_mem fun {p q} h1 h2 ⟨h3, h4⟩ => ?_
    have : TS.code B p ≠ TS.code B q := fun z => h4 (code_inj ((hq p h1).1.trans (hq q h2).1.symm) (hq p h1).2 (hq q h2).2 z)
    show TS.code B p < TS.code B q
    omega
  · rw [List.mem_map]
    constructor
    · rintro ⟨q, h, e⟩
      cases e
      exact ⟨rfl, of_decide_eq_true (List.mem_filter.mp h).2⟩
    · rintro ⟨rfl, h⟩
      refine ⟨p, List.mem_filter.mpr ⟨hp.mem_iff.mpr ((hk.mem p).mpr (Classical.byContradiction fun z => h (coef_no z))), decide_eq_true h⟩, rfl⟩
  · rw [List.length_map]
    exact Nat.le_trans (List.length_filter_le _ _) (by rw [hp.length_eq]; exact hk.len)
def spGath : VSp := ⟨List Mono × Nat × Int, fun x => [rowsD x.1], fun x => x.1.length ≤ 63 ∧ OkR x.2.1 x.2.2 x.1, fun x o e => o = true ∧ ∃ out, gatR x.2.2 x.1 out ∧ e = rowsD out, fun _ _ => False⟩
def irGath : VSs := (.cons (.asg (.nm 1) .dnew)
  (.cons (.forS (.tp (.cons (.nm 2) (.cons (.nm 3) .nil))) (.it (.var 0)) (.cons (.asg (.nm 4) (.blt .tuple (.cons (.var 2) .nil)))
  (.cons (.setix (.var 1) (.var 4) (.bin .Add (.met .get (.var 1) (.cons (.var 4) (.cons (.cst (.int 0)) .nil))) (.var 3)))
  .nil)))
  (.cons (.ret (.comp [2] (.tup (.cons (.var 2) (.cons (.ix (.var 1) (.var 2)) .nil))) (.nm 2) (.it (.blt .sorted (.cons (.blt .list (.cons (.var 1) .nil)) .nil))) (.tv (.cmp .NotEq (.ix (.var 1) (.var 2)) (.cst (.int 0))))))
  .nil)))
def irLawG : VSs := (.cons (.asg (.nm 1) .dnew)
  (.cons (.forS (.tp (.cons (.nm 2) (.cons (.nm 3) .nil))) (.it (.var 0)) (.cons (.setix (.var 1) (.var 2) (.bin .Add (.met .get (.var 1) (.cons (.var 2) (.cons (.cst (.int 0)) .nil))) (.var 3)))
  .nil))
  (.cons (.ret (.comp [2] (.tup (.cons (.var 2) (.cons (.ix (.var 1) (.var 2)) .nil))) (.nm 2) (.it (.blt .sorted (.cons (.blt .list (.cons (.var 1) .nil)) .nil))) (.tv (.cmp .NotEq (.ix (.var 1) (.var 2)) (.cst (.int 0))))))
  .nil)))
def Slot.nown (s : Slot) : Prop := ∀ d, s ≠ .own d
theorem nown_un : Slot.nown .un := fun _ z => nomatch z
theorem nown_val {d : D} : Slot.nown (.val d) := fun _ z => nomatch z
theorem noOwn1 {i : Nat} {ρ : En} {s : Slot} {P : Prop} (h : ρ[i]? = some s) (hs : s.nown) (hp : P) : noOwn [i] ρ P := by
  unfold noOwn
  rw [h]
  cases s with
  | own d => exact absurd rfl (hs d)
  | un => exact hp
  | val d => exact hp
theorem dT_keys (ks : List (List Int)) : ((ks.map kk).map fun k => D.tup (k.map keyD)) = ks.map tupD := by
  rw [List.map_map]
  exact List.map_congr_left fun p _ => by show D.tup ((kk p).map keyD) = tupD p; rw [unkk]; rfl
theorem gath_pre {d : Nat} {B : Int} {rs : List Mono} {ks : List (List Int)} (hl : rs.length ≤ 63) (hk : Keys ks rs) (ho : OkR d B rs) : ks.length < 64 ∧ (1 ≤ d ∨ ks.length ≤ 1) ∧ (∀ p ∈ ks, p.length = d ∧ TS.Bd B p) := by
  have hq : ∀ q ∈ ks, q.length = d ∧ TS.Bd B q := fun q h => by
    obtain ⟨r, hr, e⟩ := List.mem_map.mp ((hk.mem q).mp h)
    have := ho r hr
    rw [e] at this
    exact this
  have := hk.len
  refine ⟨by omega, ?_, hq⟩
  by_cases hd : 1 ≤ d
  · exact .inl hd
  · exact .inr (pigeon hk.nd (x := []) fun q h => List.length_eq_zero_iff.mp (by have := (hq q h).1; omega))
section
variable {Γ : Nat → VSp}
theorem val_gath : Val Γ spGath irGath 5 := by
  show ∀ x : List Mono × Nat × Int, (x.1.length ≤ 63 ∧ OkR x.2.1 x.2.2 x.1) → _
  rintro ⟨rs, d, B⟩ ⟨hl, ho⟩
  show wSs Γ irGath [.val (rowsD rs), .un, .un, .un, .un] _ _
  unfold irGath
  conv => whnf
  refine .inr ?_
  conv => whnf
  refine forL_gen rowD rs (fun done rest ρ => ∃ ks s2 s3 s4, Keys ks done ∧ Slot.nown s2 ∧ ρ = [.val (rowsD rs), .own (dT ks done), s2, s3, s4]) ?_ ?_ ⟨[], .un, .un, .un, ⟨List.nodup_nil, fun p => by simp, Nat.le_refl _⟩, nown_un, rfl⟩
  · rintro ρ ⟨ks, s2, s3, s4, hk, hs2, rfl⟩
    conv => whnf
    refine ⟨.inl rfl, ?_⟩
    conv => whnf
    obtain ⟨g1, g2, g3⟩ := gath_pre hl hk ho
    unfold vSort
    refine .inr (.inl ⟨ks, d, B, dT_keys ks, g1, g2, g3, fun qs hp hs => ?_⟩)
    have hmem : ∀ q ∈ qs, q ∈ ks := fun q h => hp.mem_iff.mp h
    have hql : qs.length ≤ 63 := by have := hk.len; rw [hp.length_eq]; have hl : rs.length ≤ 63 := hl; omega
    refine noOwn1 rfl hs2 ?_
    refine compL_gen tupD (fun p => decide (coef rs p ≠ 0)) (fun p => rowD (p, coef rs p)) (ρ := [.val (rowsD rs), .own (dT ks rs), .un, s3, s4]) (fun p => [.val (rowsD rs), .own (dT ks rs), .val (tupD p), s3, s4]) (fun p => rfl) _ _ (by show 0 + qs.length ≤ 1000000; omega) (fun p hp Ka Ks ha hs => ?_) ?_
    · conv => whnf
      refine ⟨.inl rfl, _, _, keys_tup p, dT_ix (hmem p hp), ?_⟩
      conv => whnf
      have e : decide (coef rs p ≠ 0) = !decide (coef rs p = 0) := by simp
      rw [e] at ha hs
      refine ⟨fun h => ?_, fun h => hs h⟩
      conv => whnf
      refine ⟨.inl rfl, _, _, keys_tup p, dT_ix (hmem p hp), ?_⟩
      exact ha h
    · conv => whnf
      exact ⟨rfl, _, gat_of hk ho hp hs, by rw [List.nil_append]; unfold rowsD; rw [List.map_map]; rfl⟩
  · rintro done ⟨p, c⟩ rest ρ nx bk he ⟨ks, s2, s3, s4, hk, hs2, rfl⟩ hnx -
    conv => whnf
    refine ⟨.inl rfl, ?_⟩
    conv => whnf
    refine ⟨kk p, keys_tup p, rfl, ?_⟩
    have e : (dget (ks.map kk) (ks.map fun p => D.int (coef done p)) (kk p)).getD ((R.val (D.int 0)).d) = .int (coef done p) := dT_get hk p
    rw [e]
    conv => whnf
    refine ⟨.inl rfl, ?_⟩
    conv => whnf
    have hln : rs.length ≤ 63 := hl
    have hdl := congrArg List.length he
    rw [List.length_append, List.length_cons] at hdl
    refine ⟨_, keys_tup p, rfl, by have := hk.len; rw [List.length_map]; show _ < 1000000; omega, hnx _ ⟨kput ks p, .val (tupD p), .val (.int c), .val (tupD p), hk.put p c, nown_val, by rw [← dT_put]; rfl⟩⟩
theorem val_lawG : Val Γ spGath irLawG 4 := by
  show ∀ x : List Mono × Nat × Int, (x.1.length ≤ 63 ∧ OkR x.2.1 x.2.2 x.1) → _
  rintro ⟨rs, d, B⟩ ⟨hl, ho⟩
  show wSs Γ irLawG [.val (rowsD rs), .un, .un, .un] _ _
  unfold irLawG
  conv => whnf
  refine .inr ?_
  conv => whnf
  refine forL_gen rowD rs (fun done rest ρ => ∃ ks s2 s3, Keys ks done ∧ Slot.nown s2 ∧ ρ = [.val (rowsD rs), .own (dT ks done), s2, s3]) ?_ ?_ ⟨[], .un, .un, ⟨List.nodup_nil, fun p => by simp, Nat.le_refl _⟩, nown_un, rfl⟩
  · rintro ρ ⟨ks, s2, s3, hk, hs2, rfl⟩
    conv => whnf
    refine ⟨.inl rfl, ?_⟩
    conv => whnf
    obtain ⟨g1, g2, g3⟩ := gath_pre hl hk ho
    unfold vSort
    refine .inr (.inl ⟨ks, d, B, dT_keys ks, g1, g2, g3, fun qs hp hs => ?_⟩)
    have hmem : ∀ q ∈ qs, q ∈ ks := fun q h => hp.mem_iff.mp h
    have hql : qs.length ≤ 63 := by have := hk.len; rw [hp.length_eq]; have hl : rs.length ≤ 63 := hl; omega
    refine noOwn1 rfl hs2 ?_
    refine compL_gen tupD (fun p => decide (coef rs p ≠ 0)) (fun p => rowD (p, coef rs p)) (ρ := [.val (rowsD rs), .own (dT ks rs), .un, s3]) (fun p => [.val (rowsD rs), .own (dT ks rs), .val (tupD p), s3]) (fun p => rfl) _ _ (by show 0 + qs.length ≤ 1000000; omega) (fun p hp Ka Ks ha hs => ?_) ?_
    · conv => whnf
      refine ⟨.inl rfl, _, _, keys_tup p, dT_ix (hmem p hp), ?_⟩
      conv => whnf
      have e : decide (coef rs p ≠ 0) = !decide (coef rs p = 0) := by simp
      rw [e] at ha hs
      refine ⟨fun h => ?_, fun h => hs h⟩
      conv => whnf
      refine ⟨.inl rfl, _, _, keys_tup p, dT_ix (hmem p hp), ?_⟩
      exact ha h
    · conv => whnf
      exact ⟨rfl, _, gat_of hk ho hp hs, by rw [List.nil_append]; unfold rowsD; rw [List.map_map]; rfl⟩
  · rintro done ⟨p, c⟩ rest ρ nx bk he ⟨ks, s2, s3, hk, hs2, rfl⟩ hnx -
    conv => whnf
    refine ⟨.inl rfl, ?_⟩
    conv => whnf
    refine ⟨kk p, keys_tup p, rfl, ?_⟩
    have e : (dget (ks.map kk) (ks.map fun p => D.int (coef done p)) (kk p)).getD ((R.val (D.int 0)).d) = .int (coef done p) := dT_get hk p
    rw [e]
    conv => whnf
    refine ⟨.inl rfl, ?_⟩
    conv => whnf
    have hln : rs.length ≤ 63 := hl
    have hdl := congrArg List.length he
    rw [List.length_append, List.length_cons] at hdl
    refine ⟨_, keys_tup p, rfl, by have := hk.len; rw [List.length_map]; show _ < 1000000; omega, hnx _ ⟨kput ks p, .val (tupD p), .val (.int c), hk.put p c, nown_val, by rw [← dT_put]; rfl⟩⟩
/-- gathered(rows), called -/
theorem gath_run {n : Nat} (hG : Γ n = spGath) {rs : List Mono} {d : Nat} {B : Int} {K : Bool → D → Prop} {E : Exc → Prop} (hl : rs.length ≤ 63) (ho : OkR d B rs) (h : ∀ out, gatR B rs out → K true (rowsD out)) : (Γ n).run [rowsD rs] K E := by
  rw [hG]
  exact run_of (s := spGath) (rs, d, B) rfl ⟨hl, ho⟩ (fun o e ⟨e1, out, h1, h2⟩ => by subst e1 h2; exact h out h1) fun e z => z.elim
end
end VL
set_option maxHeartbeats 0
/-! VLw: supports of monomials as bits. -/
namespace VL
open PySem PySem.Spec PyProof.Rows L2
def atP (p : List Int) (j : Int) : Int := p.getD j.toNat 0
def suppN (p : List Int) : List Int → Nat
  | [] => 0
  | j :: ms => (if 0 < atP p j then 1 else 0) + 2 * suppN p ms
theorem supp_snoc (p : List Int) (j : Int) : ∀ l : List Int, suppN p (l ++ [j]) = suppN p l + (if 0 < atP p j then 2 ^ l.length else 0)
  | [] => by simp [suppN]
  | k :: l => by
    show _ + 2 * suppN p (l ++ [j]) = _ + 2 * suppN p l + _
    rw [supp_snoc p j l, List.length_cons, Nat.pow_succ]
    split <;> split <;> omega
theorem supp_lt (p : List Int) : ∀ l : List Int, suppN p l < 2 ^ l.length
  | [] => by simp [suppN]
  | j :: l => by
    have := supp_lt p l
    show _ + 2 * suppN p l < 2 ^ (l.length + 1)
    rw [Nat.pow_succ]
    split <;> omega
theorem supp_bit (p : List Int) : ∀ (ms : List Int) (b : Nat), (suppN p ms).testBit b = (match ms[b]? with
    | some j => decide (0 < atP p j)
    | none => false)
  | [], b => by simp [suppN]
  | j :: ms, 0 => by
    show ((if 0 < atP p j then 1 else 0) + 2 * suppN p ms).testBit 0 = decide (0 < atP p j)
    rw [Nat.testBit_zero]
    by_cases h : 0 < atP p j
    · rw [if_pos h, decide_eq_true h]; exact decide_eq_true (by omega)
    · rw [if_neg h, decide_eq_false h]; exact decide_eq_false (by omega)
  | j :: ms, b + 1 => by
    show ((if 0 < atP p j then 1 else 0) + 2 * suppN p ms).testBit (b + 1) = _
    rw [Nat.testBit_add_one]
    have e : ((if 0 < atP p j then 1 else 0) + 2 * suppN p ms) / 2 = suppN p ms := by split <;> omega
    rw [e, supp_bit p ms b]
    rfl
theorem bandN (a b : Nat) : Builtin.bitAnd (a : Int) (b : Int) = ((a &&& b : Nat) : Int) := by
  unfold Builtin.bitAnd
  rw [decide_eq_true (Int.natCast_nonneg a), decide_eq_true (Int.natCast_nonneg b)]
  rfl
theorem borN (a b : Nat) : Builtin.bitOr (a : Int) (b : Int) = ((a ||| b : Nat) : Int) := by
  have n1 : ∀ x : Int, Builtin.bitNot x = -x - 1 := fun x => rfl
  unfold Builtin.bitOr Builtin.bitAnd
  simp only [n1]
  rw [decide_eq_false (by omega : ¬ (0 : Int) ≤ -(a : Int) - 1), decide_eq_false (by omega : ¬ (0 : Int) ≤ -(b : Int) - 1)]
  have e : ∀ c : Nat, (-(-(c : Int) - 1) - 1) = (c : Int) := fun c => by omega
  show -(-((( -(-(a : Int) - 1) - 1).toNat ||| ( -(-(b : Int) - 1) - 1).toNat : Nat) : Int) - 1) - 1 = _
  rw [e a, e b]
  show -(-((a ||| b : Nat) : Int) - 1) - 1 = _
  omega
theorem bor_pow {m b : Nat} (h : m < 2 ^ b) : Builtin.bitOr (m : Int) (1 * 2 ^ b) = ((m + 2 ^ b : Nat) : Int) := by
  have e : (1 * 2 ^ b : Int) = ((2 ^ b : Nat) : Int) := by simp
  rw [e, borN]
  have := Nat.two_pow_add_eq_or_of_lt h 1
  rw [Nat.mul_one] at this
  rw [Nat.or_comm, ← this, Nat.add_comm]
def bw (s m : Int) : Bool := decide (Builtin.bitAnd s m = s)
theorem bw_nat (s m : Nat) : bw s m = true ↔ ∀ i, s.testBit i = true → m.testBit i = true := by
  unfold bw
  rw [decide_eq_true_eq, bandN]
  constructor
  · intro h i hi
    have h : s &&& m = s := by omega
    rw [← h, Nat.testBit_and, Bool.and_eq_true] at hi
    exact hi.2
  · intro h
    congr 1
    apply Nat.eq_of_testBit_eq
    intro i
    rw [Nat.testBit_and]
    cases q : s.testBit i with
    | false => rfl
    | true => rw [h i q]; rfl
theorem sum0 : ∀ {l : List Int}, (∀ x ∈ l, 0 ≤ x) → 0 ≤ l.sum ∧ (l.sum = 0 ↔ ∀ x ∈ l, x = 0)
  | [], _ => ⟨by simp, by simp⟩
  | a :: l, h => by
    obtain ⟨h1, h2⟩ := sum0 (l := l) fun x hx => h x (List.mem_cons_of_mem _ hx)
    have ha := h a List.mem_cons_self
    rw [List.sum_cons]
    refine ⟨by omega, ?_, ?_⟩
    · intro e x hx
      rcases List.mem_cons.mp hx with z | z
      · omega
      · exact h2.mp (by omega) x z
    · intro e
      have e1 := e a List.mem_cons_self
      have e2 := h2.mpr fun x hx => e x (List.mem_cons_of_mem _ hx)
      omega
theorem supp_zero {p : List Int} : ∀ {ms : List Int}, (∀ j ∈ ms, 0 ≤ atP p j) → (suppN p ms = 0 ↔ ¬ 0 < (ms.map (atP p)).sum)
  | [], _ => by simp [suppN]
  | j :: ms, h => by
    have ih := supp_zero (ms := ms) fun x hx => h x (List.mem_cons_of_mem _ hx)
    have hj := h j List.mem_cons_self
    have hs := (sum0 (l := ms.map (atP p)) fun x hx => by
      obtain ⟨y, hy, rfl⟩ := List.mem_map.mp hx
      exact h y (List.mem_cons_of_mem _ hy)).1
    show (if 0 < atP p j then 1 else 0) + 2 * suppN p ms = 0 ↔ _
    rw [List.map_cons, List.sum_cons]
    by_cases q : 0 < atP p j
    · rw [if_pos q]; constructor <;> intro z <;> omega
    · rw [if_neg q]
      constructor
      · intro z; have := ih.mp (by omega); omega
      · intro z; have := ih.mpr (by omega); omega
def outL (ms : List Int) (lot : Int) : List Int := ((rgI 0 ms.length).filter fun b => decide (Builtin.bitAnd (lot / 2 ^ b.toNat) 1 = 0)).map (atP ms)
theorem mem_rgI {n : Nat} {m : Int} : m ∈ rgI 0 n ↔ ∃ b : Nat, m = b ∧ b < n := by
  unfold rgI
  rw [List.mem_map]
  constructor
  · rintro ⟨b, hb, e⟩
    exact ⟨b, by omega, by rw [List.mem_range] at hb; omega⟩
  · rintro ⟨b, rfl, hb⟩
    exact ⟨b, by rw [List.mem_range]; omega, by omega⟩
theorem atP_nat {ms : List Int} {b : Nat} (h : b < ms.length) : atP ms (b : Nat) = ms[b] := by
  unfold atP
  rw [Int.toNat_natCast, List.getD_eq_getElem?_getD, List.getElem?_eq_getElem h]; rfl
theorem lot_bit (lot b : Nat) : decide (Builtin.bitAnd ((lot : Int) / 2 ^ (b : Int).toNat) 1 = 0) = !lot.testBit b := by
  have e : (lot : Int) / 2 ^ (b : Int).toNat = ((lot / 2 ^ b : Nat) : Int) := by rw [Int.toNat_natCast]; simp
  rw [e, PyProof.Rows.bitAnd_m1, Nat.testBit_eq_decide_div_mod_eq]
  have : ((lot / 2 ^ b : Nat) : Int) % 2 = ((lot / 2 ^ b % 2 : Nat) : Int) := by simp
  rw [this]
  rcases Nat.mod_two_eq_zero_or_one (lot / 2 ^ b) with h | h <;> rw [h] <;> decide
theorem out_sum {p ms : List Int} (h : ∀ j ∈ ms, 0 ≤ atP p j) (lot : Nat) : ((outL ms lot).map (atP p)).sum = 0 ↔ bw (suppN p ms) lot = true := by
  have mo : ∀ j, j ∈ outL ms lot ↔ ∃ b, ∃ hb : b < ms.length, lot.testBit b = false ∧ j = ms[b] := fun j => by
    unfold outL
    rw [List.mem_map]
    constructor
    · rintro ⟨m, hm, rfl⟩
      rw [List.mem_filter] at hm
      obtain ⟨b, rfl, hb⟩ := mem_rgI.mp hm.1
      have h2 := hm.2
      rw [lot_bit] at h2
      exact ⟨b, hb, by simpa using h2, atP_nat hb⟩
    · rintro ⟨b, hb, h1, rfl⟩
      exact ⟨(b : Nat), List.mem_filter.mpr ⟨mem_rgI.mpr ⟨b, rfl, hb⟩, by rw [lot_bit, h1]; rfl⟩, atP_nat hb⟩
  have hn : ∀ x ∈ (outL ms lot).map (atP p), 0 ≤ x := fun x hx => by
    obtain ⟨j, hj, rfl⟩ := List.mem_map.mp hx
    obtain ⟨b, hb, _, rfl⟩ := (mo j).mp hj
    exact h _ (List.getElem_mem hb)
  rw [(sum0 hn).2, bw_nat]
  constructor
  · intro z i hi
    rw [supp_bit] at hi
    cases q : ms[i]? with
    | none => rw [q] at hi; cases hi
    | some j =>
      rw [q] at hi
      obtain ⟨hb, e⟩ := List.getElem?_eq_some_iff.mp q
      have hj : 0 < atP p j := of_decide_eq_true hi
      cases ql : lot.testBit i with
      | true => rfl
      | false =>
        have := z (atP p j) (List.mem_map.mpr ⟨j, (mo j).mpr ⟨i, hb, ql, e.symm⟩, rfl⟩)
        omega
  · intro z x hx
    obtain ⟨j, hj, rfl⟩ := List.mem_map.mp hx
    obtain ⟨b, hb, ql, rfl⟩ := (mo j).mp hj
    have h0 := h _ (List.getElem_mem hb)
    cases Decidable.em (0 < atP p ms[b]) with
    | inl q =>
      have := z b (by rw [supp_bit, List.getElem?_eq_getElem hb]; exact decide_eq_true q)
      rw [ql] at this; cases this
    | inr q => omega
/-- calm by supports -/
def calmB (rs : List Mono) (ms : List Int) (lot : Int) : Bool := rs.all fun r => decide ((suppN r.1 ms : Int) = 0) || !bw (suppN r.1 ms) lot
/-- calm by striking -/
def dueB (rs : List Mono) (ms : List Int) (lot : Int) : Bool := (rs.filter fun r => decide (((outL ms lot).map (atP r.1)).sum = 0)).all fun r => !decide (0 < (ms.map (atP r.1)).sum)
theorem calm_due {rs : List Mono} {ms : List Int} (h : ∀ r ∈ rs, ∀ j ∈ ms, 0 ≤ atP r.1 j) (lot : Nat) : calmB rs ms lot = dueB rs ms lot := by
  unfold calmB dueB
  rw [List.all_filter]
  have key : ∀ (l : List Mono) (f g : Mono → Bool), (∀ r ∈ l, f r = g r) → l.all f = l.all g := fun l f g hh => by
    induction l with
    | nil => rfl
    | cons a l ih =>
      rw [List.all_cons, List.all_cons, hh a List.mem_cons_self, ih fun r hr => hh r (List.mem_cons_of_mem _ hr)]
  refine key _ _ _ fun r hr => ?_
  have hr := h r hr
  have e1 := supp_zero hr
  have e2 := out_sum hr lot
  have e3 : ((suppN r.1 ms : Int) = 0) ↔ suppN r.1 ms = 0 := by omega
  by_cases q1 : suppN r.1 ms = 0
  · rw [decide_eq_true (e3.mpr q1), decide_eq_false (e1.mp q1)]; simp
  · rw [decide_eq_false (fun z => q1 (e3.mp z)), decide_eq_true (Decidable.not_not.mp fun z => q1 (e1.mpr z))]
    cases q2 : bw (suppN r.1 ms) lot with
    | true => rw [decide_eq_true (e2.mpr q2)]; rfl
    | false => rw [decide_eq_false (fun z => by rw [e2.mp z] at q2; cases q2)]; rfl
end VL
set_option maxHeartbeats 0
/-! VLx: gathered rows, any many of them with at most 63 keys. -/
namespace VL
open PySem PySem.Spec PyProof.Rows L2
/-- at most 63 keys -/
def NK (rs : List Mono) : Prop := ∀ ks : List (List Int), ks.Nodup → (∀ p ∈ ks, p ∈ rs.map (·.1)) → ks.length ≤ 63
theorem NK.le {rs : List Mono} (h : NK rs) {ks : List (List Int)} (hn : ks.Nodup) (hs : ∀ p ∈ ks, p ∈ rs.map (·.1)) : ks.length ≤ 63 := h ks hn hs
theorem gath_preK {d : Nat} {B : Int} {rs : List Mono} {ks : List (List Int)} (hl : NK rs) (hk : Keys ks rs) (ho : OkR d B rs) : ks.length < 64 ∧ (1 ≤ d ∨ ks.length ≤ 1) ∧ (∀ p ∈ ks, p.length = d ∧ TS.Bd B p) := by
  have hq : ∀ q ∈ ks, q.length = d ∧ TS.Bd B q := fun q h => by
    obtain ⟨r, hr, e⟩ := List.mem_map.mp ((hk.mem q).mp h)
    have := ho r hr
    rw [e] at this
    exact this
  have := hl ks hk.nd fun p hp => (hk.mem p).mp hp
  refine ⟨by omega, ?_, hq⟩
  by_cases hd : 1 ≤ d
  · exact .inl hd
  · exact .inr (pigeon hk.nd (x := []) fun q h => List.length_eq_zero_iff.mp (by have := (hq q h).1; omega))
def spGathK : VSp := ⟨List Mono × Nat × Int, fun x => [rowsD x.1], fun x => NK x.1 ∧ OkR x.2.1 x.2.2 x.1, fun x o e => o = true ∧ ∃ out, gatR x.2.2 x.1 out ∧ out.length ≤ 63 ∧ e = rowsD out, fun _ _ => False⟩
section
variable {Γ : Nat → VSp}
theorem val_gathK : Val Γ spGathK irGath 5 := by
  show ∀ x : List Mono × Nat × Int, (NK x.1 ∧ OkR x.2.1 x.2.2 x.1) → _
  rintro ⟨rs, d, B⟩ ⟨hl, ho⟩
  show wSs Γ irGath [.val (rowsD rs), .un, .un, .un, .un] _ _
  unfold irGath
  conv => whnf
  refine .inr ?_
  conv => whnf
  refine forL_gen rowD rs (fun done rest ρ => ∃ ks s2 s3 s4, Keys ks done ∧ Slot.nown s2 ∧ ρ = [.val (rowsD rs), .own (dT ks done), s2, s3, s4]) ?_ ?_ ⟨[], .un, .un, .un, ⟨List.nodup_nil, fun p => by simp, Nat.le_refl _⟩, nown_un, rfl⟩
  · rintro ρ ⟨ks, s2, s3, s4, hk, hs2, rfl⟩
    conv => whnf
    refine ⟨.inl rfl, ?_⟩
    conv => whnf
    obtain ⟨g1, g2, g3⟩ := gath_preK hl hk ho
    unfold vSort
    refine .inr (.inl ⟨ks, d, B, dT_keys ks, g1, g2, g3, fun qs hp hs => ?_⟩)
    have hmem : ∀ q ∈ qs, q ∈ ks := fun q h => hp.mem_iff.mp h
    have hql : qs.length ≤ 63 := by rw [hp.length_eq]; exact NK.le hl hk.nd fun p hp => (hk.mem p).mp hp
    refine noOwn1 rfl hs2 ?_
    refine compL_gen tupD (fun p => decide (coef rs p ≠ 0)) (fun p => rowD (p, coef rs p)) (ρ := [.val (rowsD rs), .own (dT ks rs), .un, s3, s4]) (fun p => [.val (rowsD rs), .own (dT ks rs), .val (tupD p), s3, s4]) (fun p => rfl) _ _ (by show 0 + qs.length ≤ 1000000; omega) (fun p hp Ka Ks ha hs => ?_) ?_
    · conv => whnf
      refine ⟨.inl rfl, _, _, keys_tup p, dT_ix (hmem p hp), ?_⟩
      conv => whnf
      have e : decide (coef rs p ≠ 0) = !decide (coef rs p = 0) := by simp
      rw [e] at ha hs
      refine ⟨fun h => ?_, fun h => hs h⟩
      conv => whnf
      refine ⟨.inl rfl, _, _, keys_tup p, dT_ix (hmem p hp), ?_⟩
      exact ha h
    · conv => whnf
      exact ⟨rfl, _, gat_of hk ho hp hs, by rw [List.length_map]; exact Nat.le_trans (List.length_filter_le _ _) hql, by rw [List.nil_append]; unfold rowsD; rw [List.map_map]; rfl⟩
  · rintro done ⟨p, c⟩ rest ρ nx bk he ⟨ks, s2, s3, s4, hk, hs2, rfl⟩ hnx -
    conv => whnf
    refine ⟨.inl rfl, ?_⟩
    conv => whnf
    refine ⟨kk p, keys_tup p, rfl, ?_⟩
    have e : (dget (ks.map kk) (ks.map fun p => D.int (coef done p)) (kk p)).getD ((R.val (D.int 0)).d) = .int (coef done p) := dT_get hk p
    rw [e]
    conv => whnf
    refine ⟨.inl rfl, ?_⟩
    conv => whnf
    have hln : ks.length ≤ 63 := NK.le (rs := rs) hl hk.nd fun q hq => by
      have := (hk.mem q).mp hq
      rw [he, List.map_append]
      exact List.mem_append_left _ this
    refine ⟨_, keys_tup p, rfl, by rw [List.length_map]; show _ < 1000000; omega, hnx _ ⟨kput ks p, .val (tupD p), .val (.int c), .val (tupD p), hk.put p c, nown_val, by rw [← dT_put]; rfl⟩⟩
theorem val_lawGK : Val Γ spGathK irLawG 4 := by
  show ∀ x : List Mono × Nat × Int, (NK x.1 ∧ OkR x.2.1 x.2.2 x.1) → _
  rintro ⟨rs, d, B⟩ ⟨hl, ho⟩
  show wSs Γ irLawG [.val (rowsD rs), .un, .un, .un] _ _
  unfold irLawG
  conv => whnf
  refine .inr ?_
  conv => whnf
  refine forL_gen rowD rs (fun done rest ρ => ∃ ks s2 s3, Keys ks done ∧ Slot.nown s2 ∧ ρ = [.val (rowsD rs), .own (dT ks done), s2, s3]) ?_ ?_ ⟨[], .un, .un, ⟨List.nodup_nil, fun p => by simp, Nat.le_refl _⟩, nown_un, rfl⟩
  · rintro ρ ⟨ks, s2, s3, hk, hs2, rfl⟩
    conv => whnf
    refine ⟨.inl rfl, ?_⟩
    conv => whnf
    obtain ⟨g1, g2, g3⟩ := gath_preK hl hk ho
    unfold vSort
    refine .inr (.inl ⟨ks, d, B, dT_keys ks, g1, g2, g3, fun qs hp hs => ?_⟩)
    have hmem : ∀ q ∈ qs, q ∈ ks := fun q h => hp.mem_iff.mp h
    have hql : qs.length ≤ 63 := by rw [hp.length_eq]; exact NK.le hl hk.nd fun p hp => (hk.mem p).mp hp
    refine noOwn1 rfl hs2 ?_
    refine compL_gen tupD (fun p => decide (coef rs p ≠ 0)) (fun p => rowD (p, coef rs p)) (ρ := [.val (rowsD rs), .own (dT ks rs), .un, s3]) (fun p => [.val (rowsD rs), .own (dT ks rs), .val (tupD p), s3]) (fun p => rfl) _ _ (by show 0 + qs.length ≤ 1000000; omega) (fun p hp Ka Ks ha hs => ?_) ?_
    · conv => whnf
      refine ⟨.inl rfl, _, _, keys_tup p, dT_ix (hmem p hp), ?_⟩
      conv => whnf
      have e : decide (coef rs p ≠ 0) = !decide (coef rs p = 0) := by simp
      rw [e] at ha hs
      refine ⟨fun h => ?_, fun h => hs h⟩
      conv => whnf
      refine ⟨.inl rfl, _, _, keys_tup p, dT_ix (hmem p hp), ?_⟩
      exact ha h
    · conv => whnf
      exact ⟨rfl, _, gat_of hk ho hp hs, by rw [List.length_map]; exact Nat.le_trans (List.length_filter_le _ _) hql, by rw [List.nil_append]; unfold rowsD; rw [List.map_map]; rfl⟩
  · rintro done ⟨p, c⟩ rest ρ nx bk he ⟨ks, s2, s3, hk, hs2, rfl⟩ hnx -
    conv => whnf
    refine ⟨.inl rfl, ?_⟩
    conv => whnf
    refine ⟨kk p, keys_tup p, rfl, ?_⟩
    have e : (dget (ks.map kk) (ks.map fun p => D.int (coef done p)) (kk p)).getD ((R.val (D.int 0)).d) = .int (coef done p) := dT_get hk p
    rw [e]
    conv => whnf
    refine ⟨.inl rfl, ?_⟩
    conv => whnf
    have hln : ks.length ≤ 63 := NK.le (rs := rs) hl hk.nd fun q hq => by
      have := (hk.mem q).mp hq
      rw [he, List.map_append]
      exact List.mem_append_left _ this
    refine ⟨_, keys_tup p, rfl, by rw [List.length_map]; show _ < 1000000; omega, hnx _ ⟨kput ks p, .val (tupD p), .val (.int c), hk.put p c, nown_val, by rw [← dT_put]; rfl⟩⟩
/-- gathered(rows), called -/
theorem gath_runK {n : Nat} (hG : Γ n = spGathK) {rs : List Mono} {d : Nat} {B : Int} {K : Bool → D → Prop} {E : Exc → Prop} (hl : NK rs) (ho : OkR d B rs) (h : ∀ out, gatR B rs out → out.length ≤ 63 → K true (rowsD out)) : (Γ n).run [rowsD rs] K E := by
  rw [hG]
  exact run_of (s := spGathK) (rs, d, B) rfl ⟨hl, ho⟩ (fun o e ⟨e1, out, h1, h3, h2⟩ => by subst e1 h2; exact h out h1 h3) fun e z => z.elim
end
end VL
set_option maxHeartbeats 0
/-! VLy: values of lists of monomials; two gathered lists with equal values at all points are equal. -/
namespace VL
open PySem PySem.Spec PyProof.Rows L2
theorem nodup_len {α : Type} [DecidableEq α] : ∀ {ks l : List α}, ks.Nodup → (∀ x ∈ ks, x ∈ l) → ks.length ≤ l.length
  | [], _, _, _ => Nat.zero_le _
  | a :: t, l, hn, hs => by
    rw [List.nodup_cons] at hn
    have ha := hs a List.mem_cons_self
    have h1 : t.length ≤ (l.erase a).length := nodup_len hn.2 fun x hx => (List.mem_erase_of_ne (fun z => hn.1 (by rw [← z]; exact hx))).mpr (hs x (List.mem_cons_of_mem _ hx))
    have h2 := List.length_erase_of_mem ha
    have h3 : 0 < l.length := List.length_pos_of_mem ha
    rw [List.length_cons]
    omega
theorem keys_ex : ∀ rs : List Mono, ∃ ks : List (List Int), ks.Nodup ∧ ∀ p, p ∈ ks ↔ p ∈ rs.map (·.1)
  | [] => ⟨[], List.nodup_nil, fun p => by simp⟩
  | r :: rs => by
    obtain ⟨ks, h1, h2⟩ := keys_ex rs
    exact ⟨kput ks r.1, kput_nodup h1, fun p => by rw [kput_mem, h2, List.map_cons, List.mem_cons]; exact Or.comm⟩
/-! ### linear in the rows -/
def lin (F : List Int → Int) : List Mono → Int
  | [] => 0
  | r :: rs => r.2 * F r.1 + lin F rs
theorem lin_app (F : List Int → Int) : ∀ a b : List Mono, lin F (a ++ b) = lin F a + lin F b
  | [], b => by simp [lin]
  | r :: a, b => by
    show r.2 * F r.1 + lin F (a ++ b) = r.2 * F r.1 + lin F a + lin F b
    rw [lin_app F a b]; omega
theorem lin_flat {α : Type} (F : List Int → Int) (f : α → List Mono) (g : α → Int) : ∀ (l : List α), (∀ x ∈ l, lin F (f x) = g x) → lin F (l.flatMap f) = (l.map g).sum
  | [], _ => rfl
  | x :: l, h => by
    rw [List.flatMap_cons, lin_app, List.map_cons, List.sum_cons, h x List.mem_cons_self, lin_flat F f g l fun y hy => h y (List.mem_cons_of_mem _ hy)]
theorem lin_sum (F : List Int → Int) : ∀ rs : List Mono, lin F rs = (rs.map fun r => r.2 * F r.1).sum
  | [] => rfl
  | r :: rs => by
    rw [List.map_cons, List.sum_cons, ← lin_sum F rs]; rfl
theorem lin_congr {F G : List Int → Int} : ∀ {rs : List Mono}, (∀ r ∈ rs, F r.1 = G r.1) → lin F rs = lin G rs
  | [], _ => rfl
  | r :: rs, h => by
    show r.2 * F r.1 + lin F rs = r.2 * G r.1 + lin G rs
    rw [h r List.mem_cons_self, lin_congr fun q hq => h q (List.mem_cons_of_mem _ hq)]
theorem sum_one (F : List Int → Int) (p : List Int) (c : Int) : ∀ ks : List (List Int), ks.Nodup → (ks.map fun k => (if p = k then c else 0) * F k).sum = if p ∈ ks then c * F p else 0
  | [], _ => by simp
  | k :: ks, h => by
    rw [List.nodup_cons] at h
    rw [List.map_cons, List.sum_cons, sum_one F p c ks h.2]
    by_cases e : p = k
    · subst e
      rw [if_pos rfl, if_neg h.1, if_pos List.mem_cons_self]; omega
    · rw [if_neg e, Int.zero_mul]
      by_cases hp : p ∈ ks
      · rw [if_pos hp, if_pos (List.mem_cons_of_mem _ hp)]; omega
      · rw [if_neg hp, if_neg (by rw [List.mem_cons, not_or]; exact ⟨e, hp⟩)]; omega
theorem sum_addm {α : Type} (f g : α → Int) : ∀ l : List α, (l.map fun x => f x + g x).sum = (l.map f).sum + (l.map g).sum
  | [] => rfl
  | x :: l => by
    rw [List.map_cons, List.map_cons, List.map_cons, List.sum_cons, List.sum_cons, List.sum_cons, sum_addm f g l]; omega
theorem sum_mulm {α : Type} (c : Int) (f : α → Int) : ∀ l : List α, (l.map fun x => c * f x).sum = c * (l.map f).sum
  | [] => by simp
  | x :: l => by
    rw [List.map_cons, List.map_cons, List.sum_cons, List.sum_cons, sum_mulm c f l, Int.mul_add]
theorem lin_keys (F : List Int → Int) {ks : List (List Int)} (hn : ks.Nodup) : ∀ rs : List Mono, (∀ r ∈ rs, r.1 ∈ ks) → lin F rs = (ks.map fun k => coef rs k * F k).sum
  | [], _ => by
    have : (ks.map fun k => coef [] k * F k) = ks.map fun _ => (0 : Int) := List.map_congr_left fun k _ => by show 0 * F k = 0; exact Int.zero_mul _
    rw [this]
    show (0 : Int) = _
    have : ∀ l : List (List Int), (l.map fun _ => (0 : Int)).sum = 0 := fun l => by
      induction l with
      | nil => rfl
      | cons x l ih => rw [List.map_cons, List.sum_cons, ih]; rfl
    rw [this]
  | r :: rs, h => by
    have e : (ks.map fun k => coef (r :: rs) k * F k) = ks.map fun k => (if r.1 = k then r.2 else 0) * F k + coef rs k * F k := List.map_congr_left fun k _ => by
      show ((if r.1 = k then r.2 else 0) + coef rs k) * F k = _
      rw [Int.add_mul]
    rw [e, sum_addm, sum_one F r.1 r.2 ks hn, if_pos (h r List.mem_cons_self), ← lin_keys F hn rs fun q hq => h q (List.mem_cons_of_mem _ hq)]; rfl
theorem lin_of_coef {F : List Int → Int} {a b : List Mono} (h : ∀ p, coef a p = coef b p) : lin F a = lin F b := by
  obtain ⟨ks, h1, h2⟩ := keys_ex (a ++ b)
  rw [lin_keys F h1 a fun r hr => (h2 _).mpr (List.mem_map.mpr ⟨r, List.mem_append_left _ hr, rfl⟩), lin_keys F h1 b fun r hr => (h2 _).mpr (List.mem_map.mpr ⟨r, List.mem_append_right _ hr, rfl⟩)]
  congr 1
  exact List.map_congr_left fun k _ => by rw [h]
theorem gatR.lin {B : Int} {rs o : List Mono} (h : gatR B rs o) (F : List Int → Int) : VL.lin F o = VL.lin F rs := lin_of_coef h.coef
/-! ### values -/
/-- a monomial's value -/
def ev : List Int → List Int → Int
  | a :: x, k :: p => a ^ k.toNat * ev x p
  | _, _ => 1
/-- rows of n powers, none below 0 -/
def Rn (n : Nat) (rs : List Mono) : Prop := ∀ r ∈ rs, r.1.length = n ∧ ∀ k ∈ r.1, 0 ≤ k
def valP (rs : List Mono) (x : List Int) : Int := lin (ev x) rs
theorem valP_app (a b : List Mono) (x : List Int) : valP (a ++ b) x = valP a x + valP b x := lin_app _ a b
/-! ### one variable -/
def hor : List Int → Int → Int
  | [], _ => 0
  | c :: cs, t => c + t * hor cs t
theorem hor_zero : ∀ {cs : List Int} {N : Int}, 0 ≤ N → (∀ t, N < t → hor cs t = 0) → ∀ c ∈ cs, c = 0
  | [], _, _, _, _, h => nomatch h
  | c :: cs, N, hN, h, c', hc => by
    have c0 : c = 0 := by
      have hb := h (N + c.natAbs + 1) (by omega)
      have hb : c + (N + c.natAbs + 1) * hor cs (N + c.natAbs + 1) = 0 := hb
      have hd : (N + c.natAbs + 1) ∣ c := ⟨-hor cs (N + c.natAbs + 1), by rw [Int.mul_neg]; omega⟩
      refine Int.eq_zero_of_dvd_of_natAbs_lt_natAbs hd ?_
      omega
    rcases List.mem_cons.mp hc with e | hc
    · rw [e, c0]
    · refine hor_zero hN (fun t ht => ?_) c' hc
      have h2 : c + t * hor cs t = 0 := h t ht
      rw [c0, Int.zero_add] at h2
      exact (Int.mul_eq_zero.mp h2).resolve_left (by omega)
/-! ### by the first variable -/
def subR (k : Nat) (rs : List Mono) : List Mono := rs.filterMap fun r => match r.1 with
  | [] => none
  | a :: p => if a = (k : Int) then some (p, r.2) else none
theorem sub_cons (k : Nat) (a : Int) (p : List Int) (c : Int) (rs : List Mono) : subR k ((a :: p, c) :: rs) = (if a = (k : Int) then [(p, c)] else []) ++ subR k rs := by
  unfold subR
  rw [List.filterMap_cons]
  by_cases h : a = (k : Int)
  · simp [h]
  · simp [h]
/-- coefficients of the powers of the first variable, of the lot from k on, d many -/
def colsR (x : List Int) (rs : List Mono) : Nat → Nat → List Int
  | _, 0 => []
  | k, d + 1 => valP (subR k rs) x :: colsR x rs (k + 1) d
theorem hor_cols {x : List Int} {rs : List Mono} {p : List Int} {c : Int} {t : Int} (a : Nat) : ∀ (k d : Nat), hor (colsR x (((a : Int) :: p, c) :: rs) k d) t = (if k ≤ a ∧ a < k + d then t ^ (a - k) * (c * ev x p) else 0) + hor (colsR x rs k d) t
  | k, 0 => by
    rw [if_neg (by omega)]; rfl
  | k, d + 1 => by
    show valP (subR k (((a : Int) :: p, c) :: rs)) x + t * hor (colsR x (((a : Int) :: p, c) :: rs) (k + 1) d) t = _ + (valP (subR k rs) x + t * hor (colsR x rs (k + 1) d) t)
    rw [hor_cols a (k + 1) d, sub_cons, valP_app]
    by_cases h : a = k
    · subst h
      rw [if_pos rfl, if_neg (show ¬ (a + 1 ≤ a ∧ a < a + 1 + d) by omega), if_pos (show a ≤ a ∧ a < a + (d + 1) by omega), Nat.sub_self, Int.pow_zero, Int.one_mul, Int.zero_add]
      have e : valP [(p, c)] x = c * ev x p := by show c * ev x p + 0 = _; omega
      rw [e]; omega
    · rw [if_neg (by omega)]
      have e : valP [] x = 0 := rfl
      rw [e]
      by_cases h2 : k + 1 ≤ a ∧ a < k + 1 + d
      · rw [if_pos h2, if_pos (by omega)]
        have e2 : a - k = (a - (k + 1)) + 1 := by omega
        rw [e2, Int.pow_succ, Int.mul_add]
        generalize t ^ (a - (k + 1)) = u
        generalize c * ev x p = v
        generalize hor (colsR x rs (k + 1) d) t = z
        have : t * (u * v) = u * t * v := by rw [← Int.mul_assoc, Int.mul_comm t u]
        rw [this]; omega
      · rw [if_neg h2, if_neg (by omega)]; simp only [Int.zero_add]
theorem hor_nil {x : List Int} {t : Int} : ∀ k d, hor (colsR x [] k d) t = 0
  | k, 0 => rfl
  | k, d + 1 => by
    show valP [] x + t * hor (colsR x [] (k + 1) d) t = 0
    rw [hor_nil (k + 1) d, Int.mul_zero]; rfl
theorem val_hor {n d : Nat} {x : List Int} {t : Int} : ∀ {rs : List Mono}, Rn (n + 1) rs → (∀ r ∈ rs, ∀ k ∈ r.1, k < d) → valP rs (t :: x) = hor (colsR x rs 0 d) t
  | [], _, _ => (hor_nil 0 d).symm
  | (q, c) :: rs, h, hd => by
    obtain ⟨h1, h2⟩ := h (q, c) List.mem_cons_self
    cases q with
    | nil => cases h1
    | cons a p =>
      have a0 := h2 a List.mem_cons_self
      have ad := hd _ List.mem_cons_self a List.mem_cons_self
      obtain ⟨m, rfl⟩ : ∃ m : Nat, a = m := ⟨a.toNat, by omega⟩
      rw [hor_cols m 0 d, if_pos (by omega), ← val_hor (n := n) (fun r hr => h r (List.mem_cons_of_mem _ hr)) (fun r hr => hd r (List.mem_cons_of_mem _ hr))]
      show c * (t ^ (m : Int).toNat * ev x p) + valP rs (t :: x) = _
      rw [Int.toNat_natCast, Nat.sub_zero, ← Int.mul_assoc, Int.mul_comm c, Int.mul_assoc]
theorem sub_coef (a : Nat) (p : List Int) : ∀ (rs : List Mono), coef rs ((a : Int) :: p) = coef (subR a rs) p
  | [] => rfl
  | (q, c) :: rs => by
    show (if q = (a : Int) :: p then c else 0) + coef rs ((a : Int) :: p) = _
    rw [sub_coef a p rs]
    cases q with
    | nil =>
      rw [if_neg (by simp)]
      unfold subR
      rw [List.filterMap_cons]
      simp
    | cons b q =>
      rw [sub_cons, coef_app]
      by_cases h : b = (a : Int)
      · rw [if_pos h]
        show _ = ((if q = p then c else 0) + 0) + _
        by_cases h2 : q = p
        · rw [if_pos (by rw [h, h2]), if_pos h2]; omega
        · rw [if_neg (fun z => h2 (List.cons.inj z).2), if_neg h2]; omega
      · rw [if_neg h, if_neg (fun z => h (List.cons.inj z).1)]
        show _ = 0 + _; omega
theorem sub_rn {n k : Nat} {rs : List Mono} (h : Rn (n + 1) rs) : Rn n (subR k rs) := fun r hr => by
  unfold subR at hr
  obtain ⟨q, hq, e⟩ := List.mem_filterMap.mp hr
  obtain ⟨h1, h2⟩ := h q hq
  revert e
  split
  · intro e; cases e
  · rename_i a p hp
    split
    · intro e
      cases e
      rw [hp] at h1 h2
      exact ⟨by simpa using h1, fun k hk => h2 k (List.mem_cons_of_mem _ hk)⟩
    · intro e; cases e
theorem cols_mem {x : List Int} {rs : List Mono} : ∀ (k d a : Nat), k ≤ a → a < k + d → valP (subR a rs) x ∈ colsR x rs k d
  | k, 0, a, h1, h2 => by omega
  | k, d + 1, a, h1, h2 => by
    by_cases h : a = k
    · subst h; exact List.mem_cons_self
    · exact List.mem_cons_of_mem _ (cols_mem (k + 1) d a (by omega) (by omega))
theorem bound_ex : ∀ rs : List Mono, ∃ d : Nat, ∀ r ∈ rs, ∀ k ∈ r.1, k < d
  | [] => ⟨0, fun r h => nomatch h⟩
  | r :: rs => by
    obtain ⟨d, h⟩ := bound_ex rs
    have : ∀ p : List Int, ∃ e : Nat, ∀ k ∈ p, k < e := fun p => by
      induction p with
      | nil => exact ⟨0, fun k h => nomatch h⟩
      | cons a p ih =>
        obtain ⟨e, he⟩ := ih
        refine ⟨e + a.natAbs + 1, fun k hk => ?_⟩
        rcases List.mem_cons.mp hk with z | z
        · subst z; omega
        · have := he k z; omega
    obtain ⟨e, he⟩ := this r.1
    refine ⟨d + e, fun q hq k hk => ?_⟩
    rcases List.mem_cons.mp hq with z | z
    · subst z; have := he k hk; omega
    · have := h q z k hk; omega
/-- values 0 at all points: all coefficients 0 -/
theorem val_zero : ∀ {n : Nat} {rs : List Mono}, Rn n rs → (∀ x : List Int, x.length = n → valP rs x = 0) → ∀ p, coef rs p = 0
  | 0, rs, hr, hv, p => by
    by_cases hp : p ∈ rs.map (·.1)
    · obtain ⟨r, h1, h2⟩ := List.mem_map.mp hp
      have := (hr r h1).1
      rw [h2] at this
      have e : p = [] := List.length_eq_zero_iff.mp this
      subst e
      have h0 := hv [] rfl
      have : ∀ l : List Mono, (∀ r ∈ l, r.1.length = 0) → coef l [] = valP l [] := fun l => by
        induction l with
        | nil => intro _; rfl
        | cons r l ih =>
          intro hl
          have e1 : r.1 = [] := List.length_eq_zero_iff.mp (hl r List.mem_cons_self)
          show (if r.1 = [] then r.2 else 0) + coef l [] = r.2 * ev [] r.1 + valP l []
          rw [if_pos e1, ih fun q hq => hl q (List.mem_cons_of_mem _ hq), e1]
          show _ = r.2 * 1 + _
          omega
      rw [this rs fun r h => (hr r h).1, h0]
    · exact coef_no hp
  | n + 1, rs, hr, hv, p => by
    by_cases hp : p ∈ rs.map (·.1)
    · obtain ⟨r, h1, h2⟩ := List.mem_map.mp hp
      obtain ⟨h3, h4⟩ := hr r h1
      rw [h2] at h3 h4
      cases p with
      | nil => cases h3
      | cons a q =>
        obtain ⟨m, rfl⟩ : ∃ m : Nat, a = m := ⟨a.toNat, by have := h4 a List.mem_cons_self; omega⟩
        rw [sub_coef]
        refine val_zero (sub_rn hr) (fun x hx => ?_) q
        obtain ⟨d, hd⟩ := bound_ex rs
        have hm := hd r h1 m (by rw [h2]; exact List.mem_cons_self)
        refine hor_zero (N := 0) (Int.le_refl _) (fun t _ => ?_) _ (cols_mem (rs := rs) (x := x) 0 d m (by omega) (by omega))
        rw [← val_hor hr hd]
        exact hv (t :: x) (by rw [List.length_cons, hx])
    · exact coef_no hp
def negR (rs : List Mono) : List Mono := rs.map fun r => (r.1, -r.2)
theorem lin_neg (F : List Int → Int) : ∀ rs, lin F (negR rs) = - lin F rs
  | [] => rfl
  | r :: rs => by
    show -r.2 * F r.1 + lin F (negR rs) = -(r.2 * F r.1 + lin F rs)
    rw [lin_neg F rs, Int.neg_mul]; omega
theorem coef_neg (p : List Int) : ∀ rs, coef (negR rs) p = - coef rs p
  | [] => rfl
  | r :: rs => by
    show (if r.1 = p then -r.2 else 0) + coef (negR rs) p = -((if r.1 = p then r.2 else 0) + coef rs p)
    rw [coef_neg p rs]; split <;> omega
/-- a gathered list -/
def Can (rs : List Mono) : Prop := gatR 61 rs rs
theorem gatR.can {rs o : List Mono} (h : gatR 61 rs o) : Can o := ⟨h.1, fun p c => by rw [h.coef]; exact h.2.1 p c, Nat.le_refl _⟩
theorem Can.ident {n : Nat} {a b : List Mono} (ha : Can a) (hb : Can b) (ra : Rn n a) (rb : Rn n b) (h : ∀ x : List Int, x.length = n → valP a x = valP b x) : a = b := by
  refine gatR.uniq ha hb fun p => ?_
  have := val_zero (n := n) (rs := a ++ negR b) (fun r hr => ?_) (fun x hx => ?_) p
  · rw [coef_app, coef_neg] at this; omega
  · rcases List.mem_append.mp hr with q | q
    · exact ra r q
    · obtain ⟨s, hs, rfl⟩ := List.mem_map.mp q
      exact rb s hs
  · rw [valP_app]
    show valP a x + lin (ev x) (negR b) = 0
    rw [lin_neg, h x hx]
    show valP b x + - valP b x = 0
    omega
theorem Can.filter {rs : List Mono} (h : Can rs) (f : Mono → Bool) : Can (rs.filter f) := by
  have hn : ((rs.filter f).map (·.1)).Nodup := (gatR.nodup h).sublist (List.filter_sublist.map _)
  have n0 : ∀ r ∈ rs, r.2 ≠ 0 := fun r hr => ((h.2.1 r.1 r.2).mp hr).2
  refine ⟨h.1.sublist List.filter_sublist, fun p c => ⟨fun hm => ⟨(coef_mem hn hm).symm, n0 _ (List.mem_filter.mp hm).1⟩, fun ⟨e1, e2⟩ => ?_⟩, Nat.le_refl _⟩
  have hp : p ∈ (rs.filter f).map (·.1) := Classical.byContradiction fun z => e2 (by rw [e1, coef_no z])
  obtain ⟨⟨q, c'⟩, hq, rfl⟩ := List.mem_map.mp hp
  rw [coef_mem hn hq] at e1
  rw [e1]; exact hq
/-! ### how values go -/
theorem ev_set : ∀ (j : Nat) (x p : List Int) (y : Int), x.length = p.length → j < p.length → ev (x.set j y) p = y ^ (p.getD j 0).toNat * ev x (p.set j 0)
  | _, x, [], y, _, h => by simp at h
  | _, [], _ :: _, y, h, _ => by simp at h
  | 0, a :: x, k :: p, y, _, _ => by
    show y ^ k.toNat * ev x p = y ^ k.toNat * (a ^ (0 : Int).toNat * ev x p)
    simp
  | j + 1, a :: x, k :: p, y, h, hj => by
    show a ^ k.toNat * ev (x.set j y) p = y ^ (p.getD j 0).toNat * (a ^ k.toNat * ev x (p.set j 0))
    rw [ev_set j x p y (by simpa using h) (by simpa using hj), ← Int.mul_assoc, Int.mul_comm (a ^ k.toNat), Int.mul_assoc]
theorem ev_set0 {j : Nat} {x p : List Int} {k : Int} (h : x.length = p.length) (hj : j < p.length) : ev x (p.set j k) = (x.getD j 0) ^ k.toNat * ev x (p.set j 0) := by
  have h2 := ev_set j x (p.set j k) (x.getD j 0) (by rw [List.length_set]; exact h) (by rw [List.length_set]; exact hj)
  have e : x.set j (x.getD j 0) = x := by
    rw [List.getD_eq_getElem?_getD, List.getElem?_eq_getElem (by omega)]
    exact List.set_getElem_self _
  rw [e, List.set_set] at h2
  rw [h2]
  congr 2
  rw [List.getD_eq_getElem?_getD, List.getElem?_set_self hj]; rfl
theorem ev_add : ∀ (x p q : List Int), x.length = p.length → p.length = q.length → (∀ k ∈ p, 0 ≤ k) → (∀ k ∈ q, 0 ≤ k) → ev x (List.zipWith (· + ·) p q) = ev x p * ev x q
  | [], [], [], _, _, _, _ => rfl
  | a :: x, k :: p, l :: q, h1, h2, hp, hq => by
    show a ^ (k + l).toNat * ev x (List.zipWith (· + ·) p q) = a ^ k.toNat * ev x p * (a ^ l.toNat * ev x q)
    have k0 := hp k List.mem_cons_self
    have l0 := hq l List.mem_cons_self
    rw [ev_add x p q (by simpa using h1) (by simpa using h2) (fun z hz => hp z (List.mem_cons_of_mem _ hz)) (fun z hz => hq z (List.mem_cons_of_mem _ hz)), show (k + l).toNat = k.toNat + l.toNat by omega, Int.pow_add]
    generalize a ^ k.toNat = u
    generalize a ^ l.toNat = v
    generalize ev x p = s
    generalize ev x q = t
    rw [Int.mul_assoc, Int.mul_assoc, ← Int.mul_assoc v s t, Int.mul_comm v s, Int.mul_assoc s v t]
  | [], _ :: _, _, h, _, _, _ => by simp at h
  | _ :: _, [], _, h, _, _, _ => by simp at h
  | _, [], _ :: _, _, h, _, _ => by simp at h
  | _, _ :: _, [], _, h, _, _ => by simp at h
/-- products of rows -/
def prodR (a b : List Mono) : List Mono := a.flatMap fun r => b.map fun s => (List.zipWith (· + ·) r.1 s.1, r.2 * s.2)
theorem val_prod {n : Nat} {a b : List Mono} (ha : Rn n a) (hb : Rn n b) {x : List Int} (hx : x.length = n) : valP (prodR a b) x = valP a x * valP b x := by
  have inner : ∀ r ∈ a, ∀ b' : List Mono, (∀ s ∈ b', s ∈ b) → lin (ev x) (b'.map fun s => (List.zipWith (· + ·) r.1 s.1, r.2 * s.2)) = r.2 * ev x r.1 * lin (ev x) b' := fun r hr b' => by
    induction b' with
    | nil => intro _; show (0 : Int) = _ * 0; rw [Int.mul_zero]
    | cons s b' ih =>
      intro hs
      obtain ⟨l1, p1⟩ := ha r hr
      obtain ⟨l2, p2⟩ := hb s (hs s List.mem_cons_self)
      show r.2 * s.2 * ev x (List.zipWith (· + ·) r.1 s.1) + lin (ev x) (b'.map _) = r.2 * ev x r.1 * (s.2 * ev x s.1 + lin (ev x) b')
      rw [ih fun z hz => hs z (List.mem_cons_of_mem _ hz), ev_add x r.1 s.1 (by omega) (by omega) p1 p2, Int.mul_add]
      congr 1
      generalize ev x r.1 = u
      generalize ev x s.1 = v
      rw [Int.mul_assoc, Int.mul_assoc, ← Int.mul_assoc s.2 u v, Int.mul_comm s.2 u, Int.mul_assoc u s.2 v]
  unfold prodR valP
  rw [lin_flat (ev x) _ (fun r => r.2 * ev x r.1 * lin (ev x) b) a fun r hr => inner r hr b fun _ h => h]
  rw [lin_sum (ev x) a]
  generalize lin (ev x) b = z
  induction a with
  | nil => simp
  | cons r a ih =>
    rw [List.map_cons, List.map_cons, List.sum_cons, List.sum_cons, ih (fun q hq => ha q (List.mem_cons_of_mem _ hq)) (fun q hq => inner q (List.mem_cons_of_mem _ hq)), Int.add_mul]
/-! ### moved by a step -/
def brow (s : Int) : Nat → List Int
  | 0 => [1]
  | n + 1 => List.zipWith (fun low high => low * s + high) (brow s n ++ [0]) (0 :: brow s n)
theorem brow_len (s : Int) : ∀ n, (brow s n).length = n + 1
  | 0 => rfl
  | n + 1 => by
    show (List.zipWith _ (brow s n ++ [0]) (0 :: brow s n)).length = _
    rw [List.length_zipWith, List.length_append, List.length_cons, brow_len s n]; simp [brow_len s n]
/-- the sum of the row's numbers times the powers of t, from the k-th on -/
def wsm (t : Int) : Nat → List Int → Int
  | _, [] => 0
  | k, b :: bs => b * t ^ k + wsm t (k + 1) bs
theorem wsm_zip (t s : Int) : ∀ (k : Nat) (a b : List Int), a.length = b.length → wsm t k (List.zipWith (fun l h => l * s + h) a b) = s * wsm t k a + wsm t k b
  | k, [], [], _ => by simp [wsm]
  | k, x :: a, y :: b, h => by
    show (x * s + y) * t ^ k + wsm t (k + 1) _ = s * (x * t ^ k + wsm t (k + 1) a) + (y * t ^ k + wsm t (k + 1) b)
    rw [wsm_zip t s (k + 1) a b (by simpa using h), Int.add_mul, Int.mul_add, Int.mul_comm x s, Int.mul_assoc]; omega
  | _, [], _ :: _, h => by simp at h
  | _, _ :: _, [], h => by simp at h
theorem wsm_app0 (t : Int) : ∀ (k : Nat) (a : List Int), wsm t k (a ++ [0]) = wsm t k a
  | k, [] => by simp [wsm]
  | k, x :: a => by
    show x * t ^ k + wsm t (k + 1) (a ++ [0]) = x * t ^ k + wsm t (k + 1) a
    rw [wsm_app0 t (k + 1) a]
theorem wsm_shift (t : Int) : ∀ (k : Nat) (a : List Int), wsm t (k + 1) a = t * wsm t k a
  | k, [] => by simp [wsm]
  | k, x :: a => by
    show x * t ^ (k + 1) + wsm t (k + 1 + 1) a = t * (x * t ^ k + wsm t (k + 1) a)
    rw [wsm_shift t (k + 1) a, Int.mul_add, Int.pow_succ]
    congr 1
    rw [← Int.mul_assoc, ← Int.mul_assoc, Int.mul_comm t x, Int.mul_assoc, Int.mul_assoc, Int.mul_comm t]
theorem wsm_brow (t s : Int) : ∀ n, wsm t 0 (brow s n) = (t + s) ^ n
  | 0 => by
    show 1 * t ^ 0 + 0 = _
    simp
  | n + 1 => by
    show wsm t 0 (List.zipWith _ (brow s n ++ [0]) (0 :: brow s n)) = _
    rw [wsm_zip t s 0 _ _ (by simp), wsm_app0, wsm_brow t s n]
    show s * (t + s) ^ n + (0 * t ^ 0 + wsm t (0 + 1) (brow s n)) = _
    rw [wsm_shift, wsm_brow t s n, Int.pow_succ, Int.mul_add]
    generalize (t + s) ^ n = u
    rw [Int.mul_comm s u, Int.mul_comm t u]; omega
/-- what a monomial becomes -/
def mrow (j : Nat) (s : Int) (r : Mono) : List Mono := ((brow s (r.1.getD j 0).toNat).zipIdx).map fun b => (r.1.set j (b.2 : Nat), r.2 * b.1)
theorem lin_mrow {x p : List Int} {j : Nat} {c : Int} (h : x.length = p.length) (hj : j < p.length) : ∀ (k : Nat) (row : List Int), lin (ev x) ((row.zipIdx k).map fun b => (p.set j (b.2 : Nat), c * b.1)) = c * (wsm (x.getD j 0) k row * ev x (p.set j 0))
  | k, [] => by
    show (0 : Int) = c * (0 * _)
    rw [Int.zero_mul, Int.mul_zero]
  | k, b :: row => by
    rw [List.zipIdx_cons, List.map_cons]
    show c * b * ev x (p.set j (k : Nat)) + lin (ev x) _ = c * ((b * (x.getD j 0) ^ k + wsm (x.getD j 0) (k + 1) row) * ev x (p.set j 0))
    rw [lin_mrow h hj (k + 1) row, ev_set0 h hj, Int.toNat_natCast, Int.add_mul, Int.mul_add, Int.mul_assoc, Int.mul_assoc]
theorem val_mrow {n j : Nat} {s : Int} {rs : List Mono} (hr : Rn n rs) (hj : j < n) {x : List Int} (hx : x.length = n) : valP (rs.flatMap (mrow j s)) x = valP rs (x.set j (x.getD j 0 + s)) := by
  unfold valP
  rw [lin_flat (ev x) (mrow j s) (fun r => r.2 * ev (x.set j (x.getD j 0 + s)) r.1) rs fun r h => ?_, lin_sum]
  obtain ⟨l, p0⟩ := hr r h
  unfold mrow
  rw [lin_mrow (by omega) (by omega), wsm_brow, ev_set j x r.1 _ (by omega) (by omega)]
/-- a variable filled in -/
def frow (j : Nat) (f : Int) (r : Mono) : Mono := (r.1.set j 0, r.2 * f ^ (r.1.getD j 0).toNat)
theorem val_frow {n j : Nat} {f : Int} (hj : j < n) {x : List Int} (hx : x.length = n) : ∀ {rs : List Mono}, Rn n rs → valP (rs.map (frow j f)) x = valP rs (x.set j f)
  | [], _ => rfl
  | r :: rs, h => by
    obtain ⟨l, p0⟩ := h r List.mem_cons_self
    show r.2 * f ^ (r.1.getD j 0).toNat * ev x (r.1.set j 0) + valP (rs.map (frow j f)) x = r.2 * ev (x.set j f) r.1 + valP rs (x.set j f)
    rw [val_frow hj hx fun q hq => h q (List.mem_cons_of_mem _ hq), ev_set j x r.1 _ (by omega) (by omega), Int.mul_assoc]
theorem pow0 : ∀ {k : Nat}, k ≠ 0 → (0 : Int) ^ k = 0
  | 0, h => absurd rfl h
  | k + 1, _ => by rw [Int.pow_succ, Int.mul_zero]
theorem getD_mem {p : List Int} {j : Nat} (h : j < p.length) : p.getD j 0 ∈ p := by
  rw [List.getD_eq_getElem?_getD, List.getElem?_eq_getElem h]
  exact List.getElem_mem h
/-- the variables ds set to 0 -/
def zs (x : List Int) (ds : List Nat) : List Int := ds.foldl (fun x j => x.set j 0) x
theorem zs_len : ∀ (ds : List Nat) (x : List Int), (zs x ds).length = x.length
  | [], _ => rfl
  | d :: ds, x => by
    show (zs (x.set d 0) ds).length = _
    rw [zs_len ds, List.length_set]
theorem ev_zs {p : List Int} (p0 : ∀ k ∈ p, 0 ≤ k) : ∀ (ds : List Nat) (x : List Int), x.length = p.length → (∀ d ∈ ds, d < p.length) → ev (zs x ds) p = if ds.all (fun d => decide (p.getD d 0 = 0)) then ev x p else 0
  | [], x, _, _ => rfl
  | d :: ds, x, hx, hd => by
    have hd1 := hd d List.mem_cons_self
    show ev (zs (x.set d 0) ds) p = _
    rw [ev_zs p0 ds (x.set d 0) (by rw [List.length_set]; exact hx) fun z hz => hd z (List.mem_cons_of_mem _ hz), List.all_cons, ev_set d x p 0 hx hd1]
    by_cases e : p.getD d 0 = 0
    · have es : p.set d 0 = p := by
        rw [List.getD_eq_getElem?_getD, List.getElem?_eq_getElem hd1] at e
        have e : p[d] = 0 := e
        conv => lhs; rw [← e]
        exact List.set_getElem_self _
      rw [e, es]
      simp
    · have k0 := p0 _ (getD_mem hd1)
      rw [pow0 (show (p.getD d 0).toNat ≠ 0 by omega), Int.zero_mul, decide_eq_false e, Bool.false_and]
      simp
def strk (ds : List Nat) (r : Mono) : Bool := ds.all fun d => decide (r.1.getD d 0 = 0)
theorem val_strk {n : Nat} {ds : List Nat} (hd : ∀ d ∈ ds, d < n) {x : List Int} (hx : x.length = n) : ∀ {rs : List Mono}, Rn n rs → valP (rs.filter (strk ds)) x = valP rs (zs x ds)
  | [], _ => rfl
  | r :: rs, h => by
    obtain ⟨l, p0⟩ := h r List.mem_cons_self
    have ih := val_strk hd hx (rs := rs) fun q hq => h q (List.mem_cons_of_mem _ hq)
    show _ = r.2 * ev (zs x ds) r.1 + valP rs (zs x ds)
    rw [ev_zs p0 ds x (by omega) (fun d q => by have := hd d q; omega), ← ih]
    have e : ds.all (fun d => decide (r.1.getD d 0 = 0)) = strk ds r := rfl
    rw [e]
    cases q : strk ds r with
    | true => rw [List.filter_cons_of_pos q]; rfl
    | false => rw [List.filter_cons_of_neg (by rw [q]; decide)]; simp
/-! ### what is held -/
def heldR (rs : List Mono) (j : Nat) : Prop := ∃ r ∈ rs, 0 < r.1.getD j 0
theorem held_iff {n j : Nat} {rs : List Mono} (hc : Can rs) (hr : Rn n rs) (hj : j < n) : heldR rs j ↔ ∃ (x : List Int) (v : Int), x.length = n ∧ valP rs x ≠ valP rs (x.set j v) := by
  constructor
  · intro ⟨r, h1, h2⟩
    refine Classical.byContradiction fun hno => ?_
    have hv : ∀ (x : List Int) (v : Int), x.length = n → valP rs x = valP rs (x.set j v) := fun x v hx => Classical.byContradiction fun z => hno ⟨x, v, hx, z⟩
    have hd : ∀ d ∈ [j], d < n := fun d q => by rw [List.mem_singleton] at q; omega
    have e : rs = rs.filter (strk [j]) := hc.ident (hc.filter _) hr (fun q hq => hr q (List.mem_filter.mp hq).1) fun x hx => by rw [val_strk hd hx hr]; exact hv x 0 hx
    rw [e] at h1
    have := (List.mem_filter.mp h1).2
    unfold strk at this
    rw [List.all_cons, Bool.and_eq_true, decide_eq_true_eq] at this
    omega
  · rintro ⟨x, v, hx, h⟩
    refine Classical.byContradiction fun hno => h ?_
    unfold valP
    refine lin_congr fun r h1 => ?_
    obtain ⟨l, p0⟩ := hr r h1
    have k0 := p0 _ (getD_mem (p := r.1) (j := j) (by omega))
    have hz : r.1.getD j 0 = 0 := by
      have : ¬ 0 < r.1.getD j 0 := fun z => hno ⟨r, h1, z⟩
      omega
    have es : r.1.set j 0 = r.1 := by
      rw [List.getD_eq_getElem?_getD, List.getElem?_eq_getElem (by omega)] at hz
      have e : r.1[j]'(by omega) = 0 := hz
      conv => lhs; rw [← e]
      exact List.set_getElem_self _
    rw [ev_set j x r.1 v (by omega) (by omega), hz, es]
    simp
end VL
set_option maxHeartbeats 0
/-! VLz: sizes of numbers, powers, moved and filled variables; gathered rows of any many keys. -/
namespace VL
open PySem PySem.Spec PyProof.Rows L2
/-! ### specs of k34 -/
def bnd (B : Nat) (x : Int) : Prop := x.natAbs < 2 ^ B
def Cb (B : Nat) (rs : List Mono) : Prop := ∀ r ∈ rs, bnd B r.2
/-- n powers, none below 0, together at most m -/
def dg (n m : Nat) (p : List Int) : Prop := p.length = n ∧ (∀ k ∈ p, 0 ≤ k) ∧ p.sum ≤ m
def Dg (n m : Nat) (rs : List Mono) : Prop := ∀ r ∈ rs, dg n m r.1
def addV (x fs : List Int) : List Int := List.zipWith (· + ·) x fs
def natD (ds : List Nat) : D := tupD (ds.map fun d : Nat => ((d : Nat) : Int))
def fillV (fs : List Int) (ds : List Nat) (x : List Int) : List Int := ds.foldr (fun d y => y.set d (fs.getD d 0)) x
def heldL (rs : List Mono) (n : Nat) : List Int := (rgI 0 (n : Nat)).filter fun j => rs.any fun r => decide (0 < r.1.getD j.toNat 0)
def unitP (n j : Nat) : List Int := (List.range n).map fun k => if k = j then 1 else 0
def zeroP (n : Nat) : List Int := List.replicate n 0
theorem bnd_mono {a b : Nat} {x : Int} (h : bnd a x) (l : a ≤ b) : bnd b x := Nat.lt_of_lt_of_le h (Nat.pow_le_pow_right (by decide) l)
theorem bnd_mul {a b : Nat} {x y : Int} (h : bnd a x) (k : bnd b y) : bnd (a + b) (x * y) := by
  unfold bnd at *
  rw [Int.natAbs_mul, Nat.pow_add]
  exact Nat.mul_lt_mul'' h k
theorem bnd_add {a : Nat} {x y : Int} (h : bnd a x) (k : bnd a y) : bnd (a + 1) (x + y) := by
  unfold bnd at *
  have := Int.natAbs_add_le x y
  rw [Nat.pow_succ]
  omega
theorem bnd_sub {a : Nat} {x y : Int} (h : bnd a x) (k : bnd a y) : bnd (a + 1) (x - y) := by
  unfold bnd at *
  have : (x - y).natAbs ≤ x.natAbs + y.natAbs := by omega
  rw [Nat.pow_succ]
  omega
theorem bnd_pow {a : Nat} {x : Int} (h : bnd a x) : ∀ n : Nat, bnd (a * n + 1) (x ^ n)
  | 0 => by unfold bnd; simp
  | n + 1 => by
    rw [Int.pow_succ]
    exact bnd_mono (bnd_mul (bnd_pow h n) h) (by rw [Nat.mul_succ]; omega)
theorem bnd_log {a : Nat} {x : Int} (h : bnd a x) : x.natAbs.log2 ≤ a := by
  unfold bnd at h
  by_cases z : x.natAbs = 0
  · rw [z]; exact Nat.zero_le _
  · exact Nat.le_of_lt ((Nat.log2_lt z).mpr h)
theorem mulok {a b : Nat} {x y : Int} (h : bnd a x) (k : bnd b y) (l : a + b < 1000000) : MulOk x y := .inl (by have := bnd_log h; have := bnd_log k; omega)
theorem bnd_nat {k : Nat} {i : Nat} (h : i < 2 ^ k) : bnd k (i : Int) := h
/-! ### powers -/
def allP : Nat → Nat → List (List Int)
  | 0, _ => [[]]
  | n + 1, m => (List.range (m + 1)).flatMap fun k => (allP n (m - k)).map (((k : Nat) : Int) :: ·)
theorem sum_nn : ∀ {p : List Int}, (∀ k ∈ p, 0 ≤ k) → 0 ≤ p.sum
  | [], _ => Int.le_refl 0
  | a :: p, h => by
    rw [List.sum_cons]
    have := h a List.mem_cons_self
    have := sum_nn (p := p) fun k hk => h k (List.mem_cons_of_mem _ hk)
    omega
theorem allP_mem : ∀ {n m : Nat} {p : List Int}, dg n m p → p ∈ allP n m
  | 0, m, p, h => by
    have : p = [] := List.length_eq_zero_iff.mp h.1
    rw [this]; exact List.mem_singleton.mpr rfl
  | n + 1, m, [], h => by cases h.1
  | n + 1, m, a :: p, h => by
    obtain ⟨h1, h2, h3⟩ := h
    have a0 := h2 a List.mem_cons_self
    have p0 : ∀ k ∈ p, 0 ≤ k := fun k hk => h2 k (List.mem_cons_of_mem _ hk)
    have s0 := sum_nn p0
    rw [List.sum_cons] at h3
    obtain ⟨k, rfl⟩ : ∃ k : Nat, a = k := ⟨a.toNat, by omega⟩
    refine List.mem_flatMap.mpr ⟨k, List.mem_range.mpr (by omega), List.mem_map.mpr ⟨p, allP_mem ⟨by simpa using h1, p0, by omega⟩, rfl⟩⟩
theorem le_sum : ∀ {p : List Int} {x : Int}, (∀ k ∈ p, 0 ≤ k) → x ∈ p → x ≤ p.sum
  | a :: p, x, h, hx => by
    rw [List.sum_cons]
    have a0 := h a List.mem_cons_self
    have p0 : ∀ k ∈ p, 0 ≤ k := fun k hk => h k (List.mem_cons_of_mem _ hk)
    have := sum_nn p0
    rcases List.mem_cons.mp hx with e | hx
    · omega
    · have := le_sum p0 hx; omega
theorem dg_bd {n m : Nat} {p : List Int} (h : dg n m p) (hm : m ≤ 60) : p.length = n ∧ TS.Bd 61 p := ⟨h.1, fun x hx => ⟨h.2.1 x hx, by have := le_sum h.2.1 hx; have := h.2.2; omega⟩⟩
theorem Dg.ok {n m : Nat} {rs : List Mono} (h : Dg n m rs) (hm : m ≤ 60) : OkR n 61 rs := fun r hr => dg_bd (h r hr) hm
theorem Dg.rn {n m : Nat} {rs : List Mono} (h : Dg n m rs) : Rn n rs := fun r hr => ⟨(h r hr).1, (h r hr).2.1⟩
theorem gat_sub {B : Int} {rs out : List Mono} (h : gatR B rs out) {r : Mono} (hr : r ∈ out) : r.1 ∈ rs.map (·.1) := by
  obtain ⟨e1, e2⟩ := (h.2.1 r.1 r.2).mp hr
  exact Classical.byContradiction fun z => e2 (by rw [e1, coef_no z])
theorem gat_dg {B : Int} {n m : Nat} {rs out : List Mono} (h : gatR B rs out) (k : Dg n m rs) : Dg n m out := fun r hr => by
  obtain ⟨q, hq, e⟩ := List.mem_map.mp (gat_sub h hr)
  have := k q hq
  rw [e] at this
  exact this
theorem gat_rn {B : Int} {n : Nat} {rs out : List Mono} (h : gatR B rs out) (k : Rn n rs) : Rn n out := fun r hr => by
  obtain ⟨q, hq, e⟩ := List.mem_map.mp (gat_sub h hr)
  have := k q hq
  rw [e] at this
  exact this
theorem coef_abs {B : Nat} (p : List Int) : ∀ {rs : List Mono}, Cb B rs → (coef rs p).natAbs ≤ rs.length * 2 ^ B
  | [], _ => by show (0 : Int).natAbs ≤ _; simp
  | r :: rs, h => by
    have h1 : r.2.natAbs < 2 ^ B := h r List.mem_cons_self
    have ih := coef_abs p (rs := rs) fun q hq => h q (List.mem_cons_of_mem _ hq)
    show ((if r.1 = p then r.2 else 0) + coef rs p).natAbs ≤ (rs.length + 1) * 2 ^ B
    rw [Nat.succ_mul]
    split <;> omega
theorem gat_cb {C : Int} {B k : Nat} {rs out : List Mono} (h : gatR C rs out) (hc : Cb B rs) (hl : rs.length < 2 ^ k) : Cb (B + k) out := fun r hr => by
  obtain ⟨e1, e2⟩ := (h.2.1 r.1 r.2).mp hr
  unfold bnd
  rw [e1, Nat.pow_add, Nat.mul_comm]
  refine Nat.lt_of_le_of_lt (coef_abs _ hc) ?_
  have : 0 < 2 ^ B := Nat.two_pow_pos B
  exact Nat.mul_lt_mul_of_pos_right hl this
theorem Cb.mono {B B' : Nat} {rs : List Mono} (h : Cb B rs) (l : B ≤ B') : Cb B' rs := fun r hr => bnd_mono (h r hr) l
theorem sum_set : ∀ {p : List Int} {j : Nat} {v : Int}, j < p.length → (p.set j v).sum = p.sum - p.getD j 0 + v
  | [], _, _, h => by simp at h
  | a :: p, 0, v, _ => by
    show (v :: p).sum = (a :: p).sum - a + v
    rw [List.sum_cons, List.sum_cons]; omega
  | a :: p, j + 1, v, h => by
    show (a :: p.set j v).sum = (a :: p).sum - p.getD j 0 + v
    rw [List.sum_cons, List.sum_cons, sum_set (p := p) (by simpa using h)]; omega
theorem dg_set {n m j : Nat} {p : List Int} {k : Int} (h : dg n m p) (hj : j < n) (k0 : 0 ≤ k) (k1 : k ≤ p.getD j 0) : dg n m (p.set j k) := by
  refine ⟨by rw [List.length_set]; exact h.1, fun x hx => ?_, ?_⟩
  · rcases List.mem_or_eq_of_mem_set hx with q | q
    · exact h.2.1 x q
    · rw [q]; exact k0
  · rw [sum_set (by rw [h.1]; exact hj)]
    have := h.2.2
    omega
theorem dg_at {n m j : Nat} {p : List Int} (h : dg n m p) (hj : j < n) : 0 ≤ p.getD j 0 ∧ p.getD j 0 ≤ m := by
  have := getD_mem (p := p) (j := j) (by rw [h.1]; exact hj)
  exact ⟨h.2.1 _ this, Int.le_trans (le_sum h.2.1 this) h.2.2⟩
theorem sum_zip : ∀ {p q : List Int}, p.length = q.length → (List.zipWith (· + ·) p q).sum = p.sum + q.sum
  | [], [], _ => rfl
  | a :: p, b :: q, h => by
    show ((a + b) :: List.zipWith (· + ·) p q).sum = _
    rw [List.sum_cons, List.sum_cons, List.sum_cons, sum_zip (by simpa using h)]; omega
  | [], _ :: _, h => by simp at h
  | _ :: _, [], h => by simp at h
theorem zip_nn : ∀ {p q : List Int}, (∀ k ∈ p, 0 ≤ k) → (∀ k ∈ q, 0 ≤ k) → ∀ k ∈ List.zipWith (· + ·) p q, 0 ≤ k
  | [], _, _, _, k, hk => by simp at hk
  | _ :: _, [], _, _, k, hk => by simp at hk
  | a :: p, b :: q, hp, hq, k, hk => by
    have hk : k ∈ (a + b) :: List.zipWith (· + ·) p q := hk
    rcases List.mem_cons.mp hk with e | hk
    · have := hp a List.mem_cons_self; have := hq b List.mem_cons_self; omega
    · exact zip_nn (fun z hz => hp z (List.mem_cons_of_mem _ hz)) (fun z hz => hq z (List.mem_cons_of_mem _ hz)) k hk
theorem dg_add {n a b : Nat} {p q : List Int} (h : dg n a p) (k : dg n b q) : dg n (a + b) (List.zipWith (· + ·) p q) := by
  refine ⟨by rw [List.length_zipWith, h.1, k.1, Nat.min_self], zip_nn h.2.1 k.2.1, ?_⟩
  rw [sum_zip (by rw [h.1, k.1])]
  have := h.2.2
  have := k.2.2
  omega
theorem dg_mono {n a b : Nat} {p : List Int} (h : dg n a p) (l : a ≤ b) : dg n b p := ⟨h.1, h.2.1, by have := h.2.2; omega⟩
theorem unit_len (n j : Nat) : (unitP n j).length = n := by unfold unitP; simp
theorem zero_dg (n : Nat) : dg n 0 (zeroP n) := by
  refine ⟨by unfold zeroP; simp, fun k hk => by rw [List.eq_of_mem_replicate hk]; exact Int.le_refl _, ?_⟩
  unfold zeroP
  induction n with
  | zero => exact Int.le_refl _
  | succ n ih => rw [List.replicate_succ, List.sum_cons]; simpa using ih
theorem sum_unit (j : Nat) : ∀ n : Nat, ((List.range n).map fun k => if k = j then (1 : Int) else 0).sum = if j < n then 1 else 0
  | 0 => by simp
  | n + 1 => by
    rw [List.range_succ, List.map_append, List.sum_append, sum_unit j n]
    by_cases h : n = j
    · subst h; simp
    · by_cases h2 : j < n
      · rw [if_pos h2, if_pos (by omega)]; simp [h]
      · rw [if_neg h2, if_neg (by omega)]; simp [h]
theorem unit_dg {n j : Nat} (h : j < n) : dg n 1 (unitP n j) := by
  refine ⟨unit_len n j, fun k hk => ?_, ?_⟩
  · unfold unitP at hk
    obtain ⟨i, _, rfl⟩ := List.mem_map.mp hk
    split <;> omega
  · unfold unitP
    rw [sum_unit, if_pos h]; exact Int.le_refl _
theorem ev_zero : ∀ {n : Nat} {x : List Int}, ev x (zeroP n) = 1
  | 0, x => by cases x <;> rfl
  | n + 1, [] => rfl
  | n + 1, a :: x => by
    show a ^ (0 : Int).toNat * ev x (zeroP n) = 1
    rw [ev_zero]; simp
theorem ev_unit {n j : Nat} (h : j < n) {x : List Int} (hx : x.length = n) : ev x (unitP n j) = x.getD j 0 := by
  have e : unitP n j = (zeroP n).set j 1 := by
    refine List.ext_getElem? fun i => ?_
    unfold unitP zeroP
    rw [List.getElem?_map, List.getElem?_set]
    by_cases hi : i < n
    · rw [List.getElem?_range hi]
      by_cases e : j = i
      · subst e; simp [hi]
      · have : ¬ i = j := fun z => e z.symm
        simp [e, this, hi]
    · rw [List.getElem?_eq_none (by simpa using hi)]
      by_cases e : j = i
      · subst e; exact absurd h hi
      · simp [e, hi]
  have hz : (zeroP n).length = n := (zero_dg n).1
  have es : (zeroP n).set j 0 = zeroP n := by
    refine List.ext_getElem? fun i => ?_
    unfold zeroP
    rw [List.getElem?_set]
    by_cases e : j = i
    · subst e; simp [h]
    · simp [e]
  rw [e, ev_set0 (by omega) (by omega), es, ev_zero]
  show _ ^ 1 * 1 = _
  rw [Int.pow_succ, Int.pow_zero, Int.one_mul, Int.mul_one]
theorem brow_bnd {B : Nat} {s : Int} (h : bnd B s) : ∀ n, ∀ b ∈ brow s n, bnd ((B + 1) * n + 1) b
  | 0, b, hb => by
    have : b = 1 := List.mem_singleton.mp hb
    subst this
    exact (show (1 : Int).natAbs < 2 ^ 1 by decide)
  | n + 1, b, hb => by
    have hb : b ∈ List.zipWith (fun low high => low * s + high) (brow s n ++ [0]) (0 :: brow s n) := hb
    obtain ⟨i, hi, rfl⟩ := List.mem_iff_getElem.mp hb
    rw [List.getElem_zipWith]
    have l1 : ∀ x ∈ brow s n ++ [0], bnd ((B + 1) * n + 1) x := fun x hx => by
      rcases List.mem_append.mp hx with q | q
      · exact brow_bnd h n x q
      · rw [List.mem_singleton] at q; subst q; exact Nat.two_pow_pos _
    have l2 : ∀ x ∈ 0 :: brow s n, bnd ((B + 1) * n + 1) x := fun x hx => by
      rcases List.mem_cons.mp hx with q | q
      · subst q; exact Nat.two_pow_pos _
      · exact brow_bnd h n x q
    refine bnd_mono (bnd_add (a := (B + 1) * n + 1 + B) (bnd_mul (l1 _ (List.getElem_mem _)) h) (bnd_mono (l2 _ (List.getElem_mem _)) (by omega))) ?_
    rw [Nat.mul_succ]; omega
theorem band1 (k : Nat) : Builtin.bitAnd (k : Int) 1 = ((k % 2 : Nat) : Int) := by
  have := bandN k 1
  rw [Nat.and_one_is_mod] at this
  exact this
theorem zipD_ints : ∀ a b : List Int, zipD (a.map D.int) (b.map D.int) = (a.zip b).map fun p => D.tup [.int p.1, .int p.2]
  | [], _ => rfl
  | _ :: _, [] => rfl
  | x :: a, y :: b => by
    show D.tup [.int x, .int y] :: zipD (a.map D.int) (b.map D.int) = _
    rw [zipD_ints a b]; rfl
theorem zw_map (f : Int → Int → Int) : ∀ a b : List Int, (a.zip b).map (fun p : Int × Int => D.int (f p.1 p.2)) = (List.zipWith f a b).map D.int
  | [], _ => rfl
  | _ :: _, [] => rfl
  | x :: a, y :: b => by
    show D.int (f x y) :: (a.zip b).map _ = _
    rw [zw_map f a b]; rfl
theorem enumD_map {α : Type} (e : α → D) : ∀ (k : Nat) (l : List α), enumD k (l.map e) = (l.zipIdx k).map fun x => D.tup [.int (x.2 : Nat), e x.1]
  | k, [] => rfl
  | k, a :: l => by
    show D.tup [.int (k : Nat), e a] :: enumD (k + 1) (l.map e) = _
    rw [enumD_map e (k + 1) l]; rfl
theorem at_int {p : List Int} {j : Nat} (h : j < p.length) : L2.atI (p.map D.int) (j : Int) = some (.int (p.getD j 0)) := by
  obtain ⟨d, h2, h3⟩ := atI_nat (ds := p.map D.int) (r := j) (by omega) (by rw [List.length_map]; omega)
  rw [h2]
  rw [Int.toNat_natCast, List.getElem?_map, List.getElem?_eq_getElem h] at h3
  cases h3
  rw [List.getD_eq_getElem?_getD, List.getElem?_eq_getElem h]; rfl
theorem cut_take {α : Type} (xs : List α) (k : Nat) : VL.cutD xs none (some (k : Int)) = xs.take k := by
  unfold VL.cutD
  rw [HT.sIx_none, HT.sIx_nat, List.drop_zero, Nat.sub_zero]
  by_cases h : k ≤ xs.length
  · rw [Nat.min_eq_left h]
  · rw [Nat.min_eq_right (by omega), List.take_of_length_le (Nat.le_refl _), List.take_of_length_le (by omega)]
theorem cut_drop {α : Type} (xs : List α) {k : Nat} (h : k ≤ xs.length) : VL.cutD xs (some (k : Int)) none = xs.drop k := by
  unfold VL.cutD
  rw [HT.sIx_none, HT.sIx_nat, Nat.min_eq_left h, List.take_of_length_le]
  rw [List.length_drop]
  exact Nat.le_refl _
theorem set_cut (p : List Int) (j : Nat) (k : Int) (h : j < p.length) : D.tup ((p.map D.int).take j ++ [.int k] ++ (p.map D.int).drop (j + 1)) = tupD (p.set j k) := by
  unfold tupD
  rw [List.set_eq_take_append_cons_drop, if_pos h, List.map_append, List.map_cons, List.map_take, List.map_drop, List.append_assoc]; rfl
theorem mrow_bnd {j B : Nat} {s : Int} {r : Mono} (hc : bnd B r.2) (hs : bnd 210 s) (hj : (r.1.getD j 0).toNat ≤ 6) : ∀ q ∈ mrow j s r, bnd (B + 1270) q.2 := fun q hq => by
  unfold mrow at hq
  obtain ⟨b, hb, rfl⟩ := List.mem_map.mp hq
  have hm := List.fst_mem_of_mem_zipIdx hb
  exact bnd_mono (bnd_mul hc (brow_bnd hs _ _ hm)) (by omega)
theorem mrow_len (j : Nat) (s : Int) (r : Mono) : (mrow j s r).length = (r.1.getD j 0).toNat + 1 := by
  unfold mrow
  rw [List.length_map, List.length_zipIdx, brow_len]
theorem flat_le {α β : Type} (f : α → List β) (k : Nat) : ∀ (l : List α), (∀ x ∈ l, (f x).length ≤ k) → (l.flatMap f).length ≤ k * l.length
  | [], _ => by simp
  | x :: l, h => by
    rw [List.flatMap_cons, List.length_append, List.length_cons, Nat.mul_succ]
    have := h x List.mem_cons_self
    have := flat_le f k l fun y hy => h y (List.mem_cons_of_mem _ hy)
    omega
/-- the first k variables moved -/
def shV (n : Nat) (fs : List Int) (k : Nat) (y : List Int) : List Int := (List.range n).map fun i => if i < k then y.getD i 0 + fs.getD i 0 else y.getD i 0
theorem shV_len (n : Nat) (fs : List Int) (k : Nat) (y : List Int) : (shV n fs k y).length = n := by unfold shV; simp
theorem getD_ext {a b : List Int} (h : a.length = b.length) (e : ∀ i, i < a.length → a.getD i 0 = b.getD i 0) : a = b := by
  refine List.ext_getElem h fun i h1 h2 => ?_
  have := e i h1
  rw [List.getD_eq_getElem?_getD, List.getD_eq_getElem?_getD, List.getElem?_eq_getElem h1, List.getElem?_eq_getElem h2] at this
  exact this
theorem getD_map_range {n i : Nat} {f : Nat → Int} (h : i < n) : ((List.range n).map f).getD i 0 = f i := by
  rw [List.getD_eq_getElem?_getD, List.getElem?_map, List.getElem?_range h]; rfl
theorem getD_set {y : List Int} {i j : Nat} {v : Int} (h : j < y.length) : (y.set j v).getD i 0 = if i = j then v else y.getD i 0 := by
  rw [List.getD_eq_getElem?_getD, List.getD_eq_getElem?_getD]
  by_cases e : i = j
  · subst e
    rw [if_pos rfl, List.getElem?_set_self h]; rfl
  · rw [if_neg e, List.getElem?_set_ne (fun z => e z.symm)]
theorem shV_step {n k : Nat} {fs y : List Int} (hk : k < n) (hy : y.length = n) : shV n fs k (y.set k (y.getD k 0 + fs.getD k 0)) = shV n fs (k + 1) y := by
  refine getD_ext (by rw [shV_len, shV_len]) fun i hi => ?_
  rw [shV_len] at hi
  unfold shV
  rw [getD_map_range hi, getD_map_range hi, getD_set (by omega)]
  by_cases e : i = k
  · subst e
    rw [if_neg (by omega), if_pos rfl, if_pos (by omega)]
  · rw [if_neg e]
    by_cases l : i < k
    · rw [if_pos l, if_pos (by omega)]
    · rw [if_neg l, if_neg (by omega)]
theorem shV_zero {n : Nat} {fs y : List Int} (hy : y.length = n) : shV n fs 0 y = y := by
  refine getD_ext (by rw [shV_len, hy]) fun i hi => ?_
  rw [shV_len] at hi
  unfold shV
  rw [getD_map_range hi, if_neg (by omega)]
theorem addV_len {n : Nat} {y fs : List Int} (hy : y.length = n) (hf : fs.length = n) : (addV y fs).length = n := by unfold addV; rw [List.length_zipWith, hy, hf, Nat.min_self]
theorem addV_at {n i : Nat} {y fs : List Int} (hy : y.length = n) (hf : fs.length = n) (h : i < n) : (addV y fs).getD i 0 = y.getD i 0 + fs.getD i 0 := by
  unfold addV
  rw [List.getD_eq_getElem?_getD, List.getD_eq_getElem?_getD, List.getD_eq_getElem?_getD, List.getElem?_zipWith, List.getElem?_eq_getElem (by omega), List.getElem?_eq_getElem (by omega)]; rfl
theorem shV_all {n : Nat} {fs y : List Int} (hy : y.length = n) (hf : fs.length = n) : shV n fs n y = addV y fs := by
  refine getD_ext (by rw [shV_len, addV_len hy hf]) fun i hi => ?_
  rw [shV_len] at hi
  rw [addV_at hy hf hi]
  unfold shV
  rw [getD_map_range hi, if_pos hi]
theorem zipIdx_at {α : Type} {l : List α} {done rest : List (α × Nat)} {x : α × Nat} (h : l.zipIdx 0 = done ++ x :: rest) : x.2 = done.length ∧ l[done.length]? = some x.1 ∧ done.length < l.length := by
  have hl := congrArg List.length h
  rw [List.length_zipIdx, List.length_append, List.length_cons] at hl
  have h1 : done.length < l.length := by omega
  have e1 : (l.zipIdx 0)[done.length]? = some x := by rw [h, List.getElem?_append_right (Nat.le_refl _), Nat.sub_self]; rfl
  rw [List.getElem?_zipIdx, List.getElem?_eq_getElem h1] at e1
  have e1 := Option.some.inj e1
  exact ⟨by rw [← e1]; simp, by rw [← e1, List.getElem?_eq_getElem h1], h1⟩
theorem rn_at {n j : Nat} {rs : List Mono} {r : Mono} (h : Rn n rs) (hr : r ∈ rs) (hj : j < n) : 0 ≤ r.1.getD j 0 := (h r hr).2 _ (VL.getD_mem (by rw [(h r hr).1]; exact hj))
theorem boolsL {α : Type} (f : α → Bool) : ∀ l : List α, boolsD (l.map fun x => D.bl (f x)) = some (l.map f)
  | [] => rfl
  | x :: l => by
    rw [List.map_cons, List.map_cons]
    unfold boolsD
    rw [boolsL f l]; rfl
theorem lin_snoc (F : List Int → Int) (a : List Mono) (r : Mono) : lin F (a ++ [r]) = lin F a + r.2 * F r.1 := by
  rw [lin_app]; show _ + (r.2 * F r.1 + 0) = _; omega
theorem ev_nil (x : List Int) : ev x [] = 1 := by cases x <;> rfl
/-- a monomial's value, by variables from the first on -/
theorem ev_take : ∀ (x p : List Int) (k : Nat), x.length = p.length → k < p.length → ev (x.take (k + 1)) (p.take (k + 1)) = ev (x.take k) (p.take k) * (x.getD k 0) ^ (p.getD k 0).toNat
  | [], [], _, _, h => by simp at h
  | a :: x, b :: p, 0, _, _ => by
    show a ^ b.toNat * ev (x.take 0) (p.take 0) = 1 * a ^ b.toNat
    rw [List.take_zero, List.take_zero]
    show a ^ b.toNat * 1 = _
    omega
  | a :: x, b :: p, k + 1, h, hk => by
    show a ^ b.toNat * ev (x.take (k + 1)) (p.take (k + 1)) = a ^ b.toNat * ev (x.take k) (p.take k) * (x.getD k 0) ^ (p.getD k 0).toNat
    rw [ev_take x p k (by simpa using h) (by simpa using hk), Int.mul_assoc]
  | [], _ :: _, _, h, _ => by simp at h
  | _ :: _, [], _, h, _ => by simp at h
theorem ev_bnd {A : Nat} : ∀ {x p : List Int}, (∀ a ∈ x, bnd A a) → (∀ k ∈ p, 0 ≤ k) → bnd (A * p.sum.toNat + p.length + 1) (ev x p)
  | [], p, _, _ => by
    show bnd _ 1
    exact bnd_mono (show bnd 1 1 by show (1 : Int).natAbs < 2 ^ 1; decide) (by omega)
  | a :: x, [], _, _ => by
    show bnd _ 1
    exact bnd_mono (show bnd 1 1 by show (1 : Int).natAbs < 2 ^ 1; decide) (by omega)
  | a :: x, k :: p, ha, hp => by
    have k0 := hp k List.mem_cons_self
    have p0 : ∀ k ∈ p, 0 ≤ k := fun z hz => hp z (List.mem_cons_of_mem _ hz)
    have s0 := sum_nn p0
    have h1 := bnd_pow (ha a List.mem_cons_self) k.toNat
    have h2 := ev_bnd (A := A) (x := x) (p := p) (fun z hz => ha z (List.mem_cons_of_mem _ hz)) p0
    refine bnd_mono (bnd_mul h1 h2) ?_
    rw [List.sum_cons, show (k + p.sum).toNat = k.toNat + p.sum.toNat by omega, Nat.mul_add, List.length_cons]
    omega
theorem take_nn {p : List Int} (h : ∀ k ∈ p, 0 ≤ k) (k : Nat) : (∀ z ∈ p.take k, 0 ≤ z) ∧ (p.take k).sum ≤ p.sum := by
  refine ⟨fun z hz => h z (List.mem_of_mem_take hz), ?_⟩
  have e : (p.take k ++ p.drop k).sum = p.sum := by rw [List.take_append_drop]
  rw [List.sum_append] at e
  have := sum_nn (p := p.drop k) fun z hz => h z (List.mem_of_mem_drop hz)
  omega
theorem part_bnd {n m : Nat} {x p : List Int} (h : dg n m p) (hm : m ≤ 6) (hn : n ≤ 5) (hx : ∀ a ∈ x, bnd 220 a) (k : Nat) : bnd 1400 (ev (x.take k) (p.take k)) := by
  have t := take_nn h.2.1 k
  have h1 := ev_bnd (A := 220) (x := x.take k) (p := p.take k) (fun a ha => hx a (List.mem_of_mem_take ha)) t.1
  have s0 := sum_nn t.1
  have hs : (p.take k).sum.toNat ≤ 6 := by have := h.2.2; have := t.2; omega
  have hl : (p.take k).length ≤ 5 := by rw [List.length_take, h.1]; omega
  have := Nat.mul_le_mul_left 220 hs
  exact bnd_mono h1 (by omega)
theorem sum_bnd {B : Nat} : ∀ {l : List Int}, (∀ x ∈ l, bnd B x) → bnd (B + l.length) l.sum
  | [], _ => Nat.two_pow_pos _
  | x :: l, h => by
    rw [List.sum_cons]
    exact bnd_add (a := B + l.length) (bnd_mono (h x List.mem_cons_self) (by omega)) (sum_bnd fun y hy => h y (List.mem_cons_of_mem _ hy))
theorem seqOf (b : Bool) (xs : List Int) : seqD (if b then tupD xs else ilst xs) = some (b, xs.map .int) := by cases b <;> rfl
theorem if_val (b : Bool) (xs : List Int) : (if b then tupD xs else ilst xs) = (match b with | true => D.tup (xs.map .int) | false => D.lst (xs.map .int)) := by cases b <;> rfl
theorem plain_rows : ∀ rs : List Mono, plainDs (rs.map rowD) = true
  | [] => rfl
  | r :: rs => by
    rw [List.map_cons]
    unfold plainDs
    rw [plain_rows rs, Bool.and_true]
    unfold rowD plainD plainDs
    rw [show plainD (tupD r.1) = true from plain_ints r.1]
    rfl
theorem sz_rows {n : Nat} : ∀ rs : List Mono, (∀ r ∈ rs, r.1.length = n) → szs (rs.map rowD) ≤ rs.length * (n + 3)
  | [], _ => by simp [szs]
  | r :: rs, h => by
    have ih := sz_rows rs fun x hx => h x (List.mem_cons_of_mem _ hx)
    have e := h r List.mem_cons_self
    rw [List.map_cons, List.length_cons]
    unfold szs
    have e2 : sz (rowD r) = n + 3 := by
      unfold rowD sz szs
      rw [show sz (tupD r.1) = n + 1 by unfold tupD sz; rw [szs_ints, e]]
      unfold szs
      simp [sz, szs]
    rw [e2, Nat.succ_mul]
    omega
theorem nats_of {n : Nat} : ∀ {es : List D}, (∀ e ∈ es, ∃ k : Nat, k < n ∧ e = .int (k : Nat)) → ∃ ks : List Nat, es = (ks.map fun d : Nat => ((d : Nat) : Int)).map D.int ∧ ∀ k ∈ ks, k < n
  | [], _ => ⟨[], rfl, fun _ h => nomatch h⟩
  | e :: es, h => by
    obtain ⟨k, hk, rfl⟩ := h e List.mem_cons_self
    obtain ⟨ks, rfl, hks⟩ := nats_of (es := es) fun x hx => h x (List.mem_cons_of_mem _ hx)
    exact ⟨k :: ks, rfl, fun x hx => (List.mem_cons.mp hx).elim (fun z => by rw [z]; exact hk) (hks x)⟩
theorem ixNn {n j : Nat} (hj : j < n) : L2.ixN n (j : Int) = some j := by
  unfold L2.ixN
  rw [if_pos (by omega), if_pos (by omega)]
  simp
theorem lf_ints : ∀ p : List Int, D.lfs (p.map D.int) = true
  | [] => rfl
  | a :: p => by
    rw [List.map_cons]
    unfold D.lfs D.lf
    rw [lf_ints p]; rfl
theorem lf_row (r : Mono) : (rowD r).lf = true := by
  unfold rowD tupD
  unfold D.lf D.lfs
  unfold D.lf
  rw [lf_ints]
  unfold D.lfs
  unfold D.lf D.lfs
  rfl
theorem zero_map (n : Nat) : ((rgI 0 (n : Nat)).map fun _ => D.int 0) = (zeroP n).map D.int := by
  unfold rgI zeroP
  rw [List.map_map]
  refine List.ext_getElem? fun i => ?_
  rw [List.getElem?_map, List.getElem?_map, List.getElem?_replicate]
  by_cases h : i < n
  · rw [List.getElem?_range (by omega), if_pos h]; rfl
  · rw [List.getElem?_eq_none (by simp; omega), if_neg h]; rfl
theorem unit_map (n j : Nat) : ((rgI 0 (n : Nat)).map fun k => D.int (if decide (k = (j : Int)) then 1 else 0)) = (unitP n j).map D.int := by
  unfold rgI unitP
  rw [List.map_map, List.map_map]
  have : ((n : Int) - 0).toNat = n := by omega
  rw [this]
  refine List.map_congr_left fun i _ => ?_
  show D.int (if decide ((0 : Int) + (i : Nat) = (j : Int)) then 1 else 0) = D.int (if i = j then 1 else 0)
  congr 1
  by_cases h : i = j
  · rw [if_pos h, if_pos (decide_eq_true (by omega))]
  · rw [if_neg h, if_neg (by simp only [decide_eq_true_eq]; omega)]
theorem sole_dg {n j : Nat} {f : Int} (hj : j < n) : Dg n 1 [(unitP n j, 1), (zeroP n, f)] := fun r hr => by
  simp only [List.mem_cons, List.not_mem_nil, or_false] at hr
  rcases hr with rfl | rfl
  · exact unit_dg hj
  · exact dg_mono (zero_dg n) (by omega)
theorem prodR_snoc (a : List Mono) (r : Mono) (b : List Mono) : prodR (a ++ [r]) b = prodR a b ++ b.map fun s => (List.zipWith (· + ·) r.1 s.1, r.2 * s.2) := by
  unfold prodR
  rw [List.flatMap_append, List.flatMap_singleton]
theorem zip_map {n : Nat} {p q : List Int} (hp : p.length = n) (hq : q.length = n) : ((rgI 0 (n : Nat)).map fun j => D.int (p.getD j.toNat 0 + q.getD j.toNat 0)) = (List.zipWith (· + ·) p q).map D.int := by
  unfold rgI
  rw [List.map_map]
  refine List.ext_getElem? fun i => ?_
  rw [List.getElem?_map, List.getElem?_map, List.getElem?_zipWith]
  by_cases h : i < n
  · rw [List.getElem?_range (by omega), List.getElem?_eq_getElem (by omega), List.getElem?_eq_getElem (by omega)]
    show some (D.int (p.getD ((0 : Int) + (i : Nat)).toNat 0 + q.getD ((0 : Int) + (i : Nat)).toNat 0)) = some (D.int (p[i] + q[i]))
    rw [show ((0 : Int) + (i : Nat)).toNat = i by omega, List.getD_eq_getElem?_getD, List.getD_eq_getElem?_getD, List.getElem?_eq_getElem (by omega), List.getElem?_eq_getElem (by omega)]; rfl
  · rw [List.getElem?_eq_none (by simp; omega), List.getElem?_eq_none (show p.length ≤ i by omega)]; rfl
theorem take_sum_le {n m : Nat} {p : List Int} (h : dg n m p) (k : Nat) : 0 ≤ (p.take k).sum ∧ (p.take k).sum ≤ m := by
  have t := take_nn h.2.1 k
  exact ⟨sum_nn t.1, by have := h.2.2; omega⟩
theorem take_succ_sum {n m i : Nat} {p : List Int} (h : dg n m p) (hi : i < n) : (p.take (i + 1)).sum = (p.take i).sum + p.getD i 0 := by
  rw [List.take_add_one, List.sum_append, List.getElem?_eq_getElem (by rw [h.1]; exact hi), List.getD_eq_getElem?_getD, List.getElem?_eq_getElem (by rw [h.1]; exact hi)]
  simp
theorem prod_dg {n a b : Nat} {x y : List Mono} (h : Dg n a x) (k : Dg n b y) : Dg n (a + b) (prodR x y) := fun r hr => by
  unfold prodR at hr
  obtain ⟨u, hu, hr⟩ := List.mem_flatMap.mp hr
  obtain ⟨v, hv, rfl⟩ := List.mem_map.mp hr
  exact dg_add (h u hu) (k v hv)
theorem prod_cb {a b : Nat} {x y : List Mono} (h : Cb a x) (k : Cb b y) : Cb (a + b) (prodR x y) := fun r hr => by
  unfold prodR at hr
  obtain ⟨u, hu, hr⟩ := List.mem_flatMap.mp hr
  obtain ⟨v, hv, rfl⟩ := List.mem_map.mp hr
  exact bnd_mul (h u hu) (k v hv)
theorem Dg.mono {n a b : Nat} {x : List Mono} (h : Dg n a x) (l : a ≤ b) : Dg n b x := fun r hr => dg_mono (h r hr) l
/-- the variables below k of ds filled in -/
def frk (fs : List Int) (ds : List Nat) : Nat → Mono → Mono
  | 0, r => r
  | k + 1, r => if k ∈ ds then frow k (fs.getD k 0) (frk fs ds k r) else frk fs ds k r
def fillK (fs : List Int) (ds : List Nat) : Nat → List Int → List Int
  | 0, x => x
  | k + 1, x => fillK fs ds k (if k ∈ ds then x.set k (fs.getD k 0) else x)
theorem fillK_len (fs : List Int) (ds : List Nat) : ∀ (k : Nat) (x : List Int), (fillK fs ds k x).length = x.length
  | 0, _ => rfl
  | k + 1, x => by
    show (fillK fs ds k _).length = _
    rw [fillK_len fs ds k]
    split
    · rw [List.length_set]
    · rfl
theorem fillK_at (fs : List Int) (ds : List Nat) (i : Nat) : ∀ (k : Nat) (x : List Int), k ≤ x.length → (fillK fs ds k x).getD i 0 = if i < k ∧ i ∈ ds then fs.getD i 0 else x.getD i 0
  | 0, x, _ => by rw [if_neg (by omega)]; rfl
  | k + 1, x, h => by
    show (fillK fs ds k (if k ∈ ds then x.set k (fs.getD k 0) else x)).getD i 0 = _
    by_cases hk : k ∈ ds
    · rw [if_pos hk, fillK_at fs ds i k _ (by rw [List.length_set]; omega), getD_set (by omega)]
      by_cases e : i = k
      · subst e
        rw [if_neg (by omega), if_pos rfl, if_pos ⟨by omega, hk⟩]
      · by_cases l : i < k ∧ i ∈ ds
        · rw [if_pos l, if_pos ⟨by omega, l.2⟩]
        · rw [if_neg l, if_neg e, if_neg (fun z => l ⟨by omega, z.2⟩)]
    · rw [if_neg hk, fillK_at fs ds i k x (by omega)]
      by_cases l : i < k ∧ i ∈ ds
      · rw [if_pos l, if_pos ⟨by omega, l.2⟩]
      · rw [if_neg l, if_neg (fun z => l ⟨by
          have : i ≠ k := fun e => hk (by rw [← e]; exact z.2)
          omega, z.2⟩)]
theorem fillV_len (fs : List Int) (x : List Int) : ∀ ds : List Nat, (fillV fs ds x).length = x.length
  | [] => rfl
  | d :: ds => by
    show ((fillV fs ds x).set d _).length = _
    rw [List.length_set, fillV_len fs x ds]
theorem fillV_at (fs : List Int) (x : List Int) (i : Nat) : ∀ ds : List Nat, (∀ d ∈ ds, d < x.length) → (fillV fs ds x).getD i 0 = if i ∈ ds then fs.getD i 0 else x.getD i 0
  | [], _ => rfl
  | d :: ds, h => by
    show ((fillV fs ds x).set d (fs.getD d 0)).getD i 0 = _
    rw [getD_set (by rw [fillV_len]; exact h d List.mem_cons_self), fillV_at fs x i ds fun z hz => h z (List.mem_cons_of_mem _ hz)]
    by_cases e : i = d
    · subst e; rw [if_pos rfl, if_pos List.mem_cons_self]
    · rw [if_neg e]
      by_cases m : i ∈ ds
      · rw [if_pos m, if_pos (List.mem_cons_of_mem _ m)]
      · rw [if_neg m, if_neg (by rw [List.mem_cons, not_or]; exact ⟨e, m⟩)]
theorem fillK_V {n : Nat} {fs x : List Int} {ds : List Nat} (hx : x.length = n) (hd : ∀ d ∈ ds, d < n) : fillK fs ds n x = fillV fs ds x := by
  refine getD_ext (by rw [fillK_len, fillV_len]) fun i hi => ?_
  rw [fillK_len] at hi
  rw [fillK_at fs ds i n x (by omega), fillV_at fs x i ds (fun d q => by rw [hx]; exact hd d q)]
  by_cases m : i ∈ ds
  · rw [if_pos ⟨by omega, m⟩, if_pos m]
  · rw [if_neg (fun z => m z.2), if_neg m]
theorem frk_dg {n m : Nat} {fs : List Int} {ds : List Nat} {r : Mono} (h : dg n m r.1) : ∀ k, k ≤ n → dg n m (frk fs ds k r).1 ∧ ∀ i, k ≤ i → i < n → (frk fs ds k r).1.getD i 0 = r.1.getD i 0
  | 0, _ => ⟨h, fun _ _ _ => rfl⟩
  | k + 1, hk => by
    obtain ⟨h1, h2⟩ := frk_dg h k (by omega)
    show dg n m (if k ∈ ds then _ else _ : Mono).1 ∧ ∀ i, k + 1 ≤ i → i < n → (if k ∈ ds then _ else _ : Mono).1.getD i 0 = _
    by_cases m1 : k ∈ ds
    · rw [if_pos m1]
      have := dg_at h1 (show k < n by omega)
      refine ⟨dg_set h1 (by omega) (Int.le_refl _) (by omega), fun i hi hin => ?_⟩
      show ((frk fs ds k r).1.set k 0).getD i 0 = _
      rw [getD_set (by rw [h1.1]; omega), if_neg (by omega), h2 i (by omega) hin]
    · rw [if_neg m1]
      exact ⟨h1, fun i hi hin => h2 i (by omega) hin⟩
theorem val_frk {n : Nat} {fs : List Int} {ds : List Nat} {rs : List Mono} {m : Nat} (hr : Dg n m rs) : ∀ (k : Nat), k ≤ n → ∀ (x : List Int), x.length = n → valP (rs.map (frk fs ds k)) x = valP rs (fillK fs ds k x)
  | 0, _, x, _ => by
    show valP (rs.map fun r => r) x = _
    rw [List.map_id']; rfl
  | k + 1, hk, x, hx => by
    show _ = valP rs (fillK fs ds k (if k ∈ ds then x.set k (fs.getD k 0) else x))
    by_cases m1 : k ∈ ds
    · rw [if_pos m1, ← val_frk hr k (by omega) _ (by rw [List.length_set]; exact hx)]
      have e : rs.map (frk fs ds (k + 1)) = (rs.map (frk fs ds k)).map (frow k (fs.getD k 0)) := by
        rw [List.map_map]
        refine List.map_congr_left fun r _ => ?_
        show (if k ∈ ds then _ else _) = _
        rw [if_pos m1]; rfl
      rw [e, val_frow (by omega) hx]
      intro q hq
      obtain ⟨r, h1, rfl⟩ := List.mem_map.mp hq
      have := (frk_dg (fs := fs) (ds := ds) (hr r h1) k (by omega)).1
      exact ⟨this.1, this.2.1⟩
    · rw [if_neg m1, ← val_frk hr k (by omega) x hx]
      congr 1
      refine List.map_congr_left fun r _ => ?_
      show (if k ∈ ds then _ else _) = _
      rw [if_neg m1]
theorem inF_nat (k : Nat) : ∀ ds : List Nat, inF (.int (k : Nat)) ((ds.map fun d : Nat => ((d : Nat) : Int)).map D.int) = decide (k ∈ ds)
  | [] => by simp [inF]
  | d :: ds => by
    have ih := inF_nat k ds
    unfold inF at ih ⊢
    rw [List.map_cons, List.map_cons, List.any_cons, ih]
    show (((d : Int) == (k : Int)) || decide (k ∈ ds)) = _
    by_cases h : k = d
    · subst h; simp
    · have : ((d : Int) == (k : Int)) = false := by simp; omega
      rw [this]
      simp [h]
theorem flat_nat (ds : List Nat) : ((ds.map fun d : Nat => ((d : Nat) : Int)).map D.int).all D.flat = true := List.all_eq_true.mpr fun x hx => by obtain ⟨y, _, rfl⟩ := List.mem_map.mp hx; rfl
theorem zs_at (i : Nat) : ∀ (ds : List Nat) (y : List Int), (∀ d ∈ ds, d < y.length) → (zs y ds).getD i 0 = if i ∈ ds then 0 else y.getD i 0
  | [], _, _ => rfl
  | d :: ds, y, h => by
    show (zs (y.set d 0) ds).getD i 0 = _
    have hd := h d List.mem_cons_self
    rw [zs_at i ds _ fun z hz => by rw [List.length_set]; exact h z (List.mem_cons_of_mem _ hz), getD_set hd]
    by_cases m : i ∈ ds
    · rw [if_pos m, if_pos (List.mem_cons_of_mem _ m)]
    · rw [if_neg m]
      by_cases e : i = d
      · rw [if_pos e, if_pos (by rw [e]; exact List.mem_cons_self)]
      · rw [if_neg e, if_neg (by rw [List.mem_cons, not_or]; exact ⟨e, m⟩)]
theorem zs_fill {n : Nat} {y fs : List Int} {ds : List Nat} (hy : y.length = n) (hf : fs.length = n) (hd : ∀ d ∈ ds, d < n) : addV (zs y ds) fs = fillV fs ds (addV y fs) := by
  have l1 : (zs y ds).length = n := by rw [zs_len, hy]
  refine getD_ext (by rw [addV_len l1 hf, fillV_len, addV_len hy hf]) fun i hi => ?_
  rw [addV_len l1 hf] at hi
  rw [addV_at l1 hf hi, zs_at i ds y (fun d q => by rw [hy]; exact hd d q), fillV_at fs _ i ds (fun d q => by rw [addV_len hy hf]; exact hd d q), addV_at hy hf hi]
  split <;> omega
theorem addV_set {n j : Nat} {y fs : List Int} {v : Int} (hy : y.length = n) (hf : fs.length = n) (hj : j < n) : addV (y.set j v) fs = (addV y fs).set j (v + fs.getD j 0) := by
  have l1 : (y.set j v).length = n := by rw [List.length_set, hy]
  refine getD_ext (by rw [addV_len l1 hf, List.length_set, addV_len hy hf]) fun i hi => ?_
  rw [addV_len l1 hf] at hi
  rw [addV_at l1 hf hi, getD_set (by omega), getD_set (by rw [addV_len hy hf]; exact hj), addV_at hy hf hi]
  by_cases e : i = j
  · subst e; rw [if_pos rfl, if_pos rfl]
  · rw [if_neg e, if_neg e]
def subV (z fs : List Int) : List Int := List.zipWith (· - ·) z fs
theorem subV_len {n : Nat} {y fs : List Int} (hy : y.length = n) (hf : fs.length = n) : (subV y fs).length = n := by unfold subV; rw [List.length_zipWith, hy, hf, Nat.min_self]
theorem subV_at {n i : Nat} {y fs : List Int} (hy : y.length = n) (hf : fs.length = n) (h : i < n) : (subV y fs).getD i 0 = y.getD i 0 - fs.getD i 0 := by
  unfold subV
  rw [List.getD_eq_getElem?_getD, List.getD_eq_getElem?_getD, List.getD_eq_getElem?_getD, List.getElem?_zipWith, List.getElem?_eq_getElem (by omega), List.getElem?_eq_getElem (by omega)]; rfl
theorem sub_add {n : Nat} {z fs : List Int} (hz : z.length = n) (hf : fs.length = n) : addV (subV z fs) fs = z := by
  have l1 := subV_len hz hf
  refine getD_ext (by rw [addV_len l1 hf, hz]) fun i hi => ?_
  rw [addV_len l1 hf] at hi
  rw [addV_at l1 hf hi, subV_at hz hf hi]; omega
theorem held_any {n j : Nat} {rs : List Mono} (hj : j < n) : (rs.any fun r => decide (0 < r.1.getD j 0)) = true ↔ heldR rs j := by
  rw [List.any_eq_true]
  exact ⟨fun ⟨r, h1, h2⟩ => ⟨r, h1, of_decide_eq_true h2⟩, fun ⟨r, h1, h2⟩ => ⟨r, h1, decide_eq_true h2⟩⟩
theorem held_same {n j : Nat} {a b : List Mono} {fs : List Int} (ca : Can a) (cb : Can b) (ra : Rn n a) (rb : Rn n b) (hf : fs.length = n) (h : ∀ y, y.length = n → valP a y = valP b (addV y fs)) (hj : j < n) : (a.any fun r => decide (0 < r.1.getD j 0)) = b.any fun r => decide (0 < r.1.getD j 0) := by
  rw [Bool.eq_iff_iff, held_any hj, held_any hj, held_iff ca ra hj, held_iff cb rb hj]
  constructor
  · rintro ⟨x, v, hx, ne⟩
    refine ⟨addV x fs, v + fs.getD j 0, addV_len hx hf, fun e => ne ?_⟩
    rw [h x hx, h _ (by rw [List.length_set]; exact hx), addV_set hx hf hj]
    exact e
  · rintro ⟨z, v, hz, ne⟩
    have l1 := subV_len hz hf
    refine ⟨subV z fs, v - fs.getD j 0, l1, fun e => ne ?_⟩
    rw [h _ l1, h _ (by rw [List.length_set]; exact l1), addV_set l1 hf hj, sub_add hz hf] at e
    rw [e]
    congr 2
    omega
theorem heldL_same {n : Nat} {a b : List Mono} {fs : List Int} (ca : Can a) (cb : Can b) (ra : Rn n a) (rb : Rn n b) (hf : fs.length = n) (h : ∀ y, y.length = n → valP a y = valP b (addV y fs)) : heldL a n = heldL b n := by
  unfold heldL
  refine List.filter_congr fun j hj => ?_
  obtain ⟨k, rfl, hk⟩ := mem_rgI.mp hj
  rw [Int.toNat_natCast]
  exact held_same ca cb ra rb hf h hk
theorem inF_ints (k : Int) : ∀ ms : List Int, inF (.int k) (ms.map D.int) = decide (k ∈ ms)
  | [] => by simp [inF]
  | d :: ds => by
    have ih := inF_ints k ds
    unfold inF at ih ⊢
    rw [List.map_cons, List.any_cons, ih]
    show ((d == k) || decide (k ∈ ds)) = _
    by_cases h : k = d
    · subst h; simp
    · have : (d == k) = false := by simp; omega
      rw [this]
      simp [h]
theorem flat_int (ms : List Int) : (ms.map D.int).all D.flat = true := List.all_eq_true.mpr fun x hx => by obtain ⟨y, _, rfl⟩ := List.mem_map.mp hx; rfl
theorem mem_heldL {n j : Nat} {rs : List Mono} (hj : j < n) : decide (((j : Nat) : Int) ∈ heldL rs n) = rs.any fun r => decide (0 < r.1.getD j 0) := by
  unfold heldL
  rw [Bool.eq_iff_iff, decide_eq_true_eq, List.mem_filter]
  constructor
  · rintro ⟨_, h⟩
    rw [Int.toNat_natCast] at h
    exact h
  · intro h
    exact ⟨mem_rgI.mpr ⟨j, rfl, hj⟩, by rw [Int.toNat_natCast]; exact h⟩
theorem heldL_len (rs : List Mono) (n : Nat) : (heldL rs n).length ≤ n := by
  unfold heldL
  refine Nat.le_trans (List.length_filter_le _ _) ?_
  rw [rgI_len]; omega
theorem plain_tup (ms : List Int) : plainD (tupD ms) = true := plain_ints ms
theorem sz_tup (ms : List Int) : sz (tupD ms) = ms.length + 1 := by
  unfold tupD sz
  rw [szs_ints]
theorem sub_map {n : Nat} {p q : List Int} (hp : p.length = n) (hq : q.length = n) : ((rgI 0 (n : Nat)).map fun j => D.int (p.getD j.toNat 0 - q.getD j.toNat 0)) = (subV p q).map D.int := by
  unfold rgI subV
  rw [List.map_map]
  refine List.ext_getElem? fun i => ?_
  rw [List.getElem?_map, List.getElem?_map, List.getElem?_zipWith]
  by_cases h : i < n
  · rw [List.getElem?_range (by omega), List.getElem?_eq_getElem (by omega), List.getElem?_eq_getElem (by omega)]
    show some (D.int (p.getD ((0 : Int) + (i : Nat)).toNat 0 - q.getD ((0 : Int) + (i : Nat)).toNat 0)) = some (D.int (p[i] - q[i]))
    rw [show ((0 : Int) + (i : Nat)).toNat = i by omega, List.getD_eq_getElem?_getD, List.getD_eq_getElem?_getD, List.getElem?_eq_getElem (by omega), List.getElem?_eq_getElem (by omega)]; rfl
  · rw [List.getElem?_eq_none (by simp; omega), List.getElem?_eq_none (show p.length ≤ i by omega)]; rfl
theorem lf_tup (ms : List Int) : (tupD ms).lf = true := by
  unfold tupD D.lf
  exact lf_ints ms
@[irreducible] def forQ (step : D → En → (En → Prop) → (En → Prop) → Prop) (K : En → Prop) (ds : List D) (ρ : En) : Prop := forL step K ds ρ
theorem forQ_eq (step : D → En → (En → Prop) → (En → Prop) → Prop) (K : En → Prop) (ds : List D) (ρ : En) : forQ step K ds ρ = forL step K ds ρ := by unfold forQ; rfl
theorem lf_nat (ds : List Nat) : (natD ds).lf = true := lf_tup _
theorem rng_nat (n : Nat) : D.tup (rngD 0 (n : Nat)) = natD (List.range n) := by
  unfold natD tupD
  rw [rngD_ints]
  congr 2
  unfold rgI
  rw [show ((n : Int) - 0).toNat = n by omega]
  exact List.map_congr_left fun k _ => by omega
theorem bnd_div {i : Int} {a : Nat} (h : bnd a i) (t : Int) (ht : t = 0 ∨ t = 1) : bnd (a + 1) (i / 10 * t) ∧ bnd (a + 1) (i / 10) := by
  unfold bnd at *
  have e : 2 ^ (a + 1) = 2 * 2 ^ a := by rw [Nat.pow_succ, Nat.mul_comm]
  have h1 : (i / 10).natAbs < 2 ^ (a + 1) := by rw [e]; omega
  rcases ht with rfl | rfl
  · rw [Int.mul_zero]; exact ⟨Nat.two_pow_pos _, h1⟩
  · rw [Int.mul_one]; exact ⟨h1, h1⟩
theorem NK.sub {a b : List Mono} (h : NK b) (hs : ∀ r ∈ a, r ∈ b) : NK a := fun ks nd hk => h ks nd fun p hp => by
  obtain ⟨r, hr, e⟩ := List.mem_map.mp (hk p hp)
  exact List.mem_map.mpr ⟨r, hs r hr, e⟩
/-! ### gathered rows, any many keys -/
theorem lt_code {B : Int} : ∀ {p q : List Int}, p.length = q.length → TS.Bd B p → TS.Bd B q → ltK (kk p) (kk q) = decide (TS.code B p < TS.code B q)
  | [], [], _, _, _ => by
    show PyProof.Rows.lexLt itemOrd [] [] = _
    have e : PyProof.Rows.lexLt itemOrd [] [] = false := rfl
    rw [e]; simp
  | [], _ :: _, l, _, _ => by simp at l
  | _ :: _, [], l, _, _ => by simp at l
  | a :: p, b :: q, l, hp, hq => by
    have l' : p.length = q.length := by simpa using l
    have ih := lt_code l' hp.tail hq.tail
    show PyProof.Rows.lexLt itemOrd (Sum.inl a :: (kk p).map itm) (Sum.inl b :: (kk q).map itm) = _
    rw [lex_cons]
    show (decide (a < b) || (!decide (b < a) && ltK (kk p) (kk q))) = _
    rw [ih]
    rcases Int.lt_trichotomy a b with h | h | h
    · have := TS.code_lt l' hp.tail hq.tail h
      rw [decide_eq_true h, decide_eq_true this]; rfl
    · subst h
      have e1 : TS.code B (a :: p) = a * B ^ p.length + TS.code B p := rfl
      have e2 : TS.code B (a :: q) = a * B ^ q.length + TS.code B q := rfl
      rw [e1, e2, l', decide_eq_false (Int.lt_irrefl a), Bool.false_or, Bool.not_false, Bool.true_and]
      rw [Bool.eq_iff_iff, decide_eq_true_eq, decide_eq_true_eq]
      omega
    · have := TS.code_lt l'.symm hq.tail hp.tail h
      rw [decide_eq_false (by omega), decide_eq_true h, Bool.not_true, Bool.false_and, Bool.false_or, decide_eq_false (by omega)]
theorem shp_kk (p : List Int) : ∀ i, shp (fun _ => false) i (kk p) := by
  induction p with
  | nil => exact fun _ => trivial
  | cons a p ih => exact fun i => ⟨rfl, ih (i + 1)⟩
/-- sorted(list(d)), d the dict of the sums -/
theorem vSort_keys {d : Nat} {B : Int} {ks : List (List Int)} {rs : List Mono} {K : R → Prop} (hk : Keys ks rs) (ho : OkR d B rs) (hK : ∀ qs : List (List Int), qs.Perm ks → qs.Pairwise (fun p q => TS.code B p ≤ TS.code B q) → K (.tmp (.lst (qs.map tupD)))) : vSort ((ks.map kk).map fun k => D.tup (k.map keyD)) K := by
  have hq : ∀ q ∈ ks, q.length = d ∧ TS.Bd B q := fun q h => by
    obtain ⟨r, hr, e⟩ := List.mem_map.mp ((hk.mem q).mp h)
    have := ho r hr
    rw [e] at this
    exact this
  unfold vSort
  by_cases hd : d = 0
  · refine .inr (.inl ⟨ks, d, B, dT_keys ks, ?_, .inr ?_, hq, hK⟩)
    · have := pigeon hk.nd (x := []) fun q h => List.length_eq_zero_iff.mp (by rw [(hq q h).1, hd])
      omega
    · exact pigeon hk.nd (x := []) fun q h => List.length_eq_zero_iff.mp (by rw [(hq q h).1, hd])
  · refine .inr (.inr (.inr ⟨fun _ => false, ks.map kk, rfl, fun k h => ?_, fun qs hp hs => ?_⟩))
    · obtain ⟨q, h1, rfl⟩ := List.mem_map.mp h
      refine ⟨fun z => hd ?_, shp_kk q 0⟩
      have := (hq q h1).1
      have e : q = [] := List.map_eq_nil_iff.mp z
      rw [← this, e]; rfl
    · obtain ⟨ys, rfl, hy⟩ := perm_map hp ks rfl
      have e : (ys.map kk).map keysD = ys.map tupD := by
        rw [List.map_map]
        exact List.map_congr_left fun p _ => by show D.tup ((kk p).map keyD) = tupD p; rw [unkk]; rfl
      rw [e]
      refine hK ys hy ?_
      rw [List.pairwise_map] at hs
      refine hs.imp_of_mem fun {p q} h1 h2 h => ?_
      obtain ⟨a1, a2⟩ := hq p (hy.mem_iff.mp h1)
      obtain ⟨b1, b2⟩ := hq q (hy.mem_iff.mp h2)
      rw [lt_code (by omega) b2 a2] at h
      have := of_decide_eq_false h
      omega
/-- sorted whole numbers -/
theorem vSort_ints {ns : List Int} {K : R → Prop} (hl : ns.length ≤ lim) (hK : ∀ ms : List Int, ms.Perm ns → ms.Pairwise (· ≤ ·) → K (.tmp (.lst (ms.map .int)))) : vSort (ns.map .int) K := by
  unfold vSort
  exact .inl ⟨ns, intsL (h := fun i => i) ns |>.trans (by rw [List.map_id']), by rw [List.length_map]; exact hl, hK⟩
def spGathL : VSp := ⟨List Mono × Nat × Int, fun x => [rowsD x.1], fun x => x.1.length < lim ∧ OkR x.2.1 x.2.2 x.1, fun x o e => o = true ∧ ∃ out, gatR x.2.2 x.1 out ∧ e = rowsD out, fun _ _ => False⟩
section
variable {Γ : Nat → VSp}
theorem val_gathL : Val Γ spGathL irGath 5 := by
  show ∀ x : List Mono × Nat × Int, (x.1.length < lim ∧ OkR x.2.1 x.2.2 x.1) → _
  rintro ⟨rs, d, B⟩ ⟨hl, ho⟩
  have hl : rs.length < lim := hl
  show wSs Γ irGath [.val (rowsD rs), .un, .un, .un, .un] _ _
  unfold irGath
  conv => whnf
  refine .inr ?_
  conv => whnf
  refine forL_gen rowD rs (fun done rest ρ => ∃ ks s2 s3 s4, Keys ks done ∧ Slot.nown s2 ∧ ρ = [.val (rowsD rs), .own (dT ks done), s2, s3, s4]) ?_ ?_ ⟨[], .un, .un, .un, ⟨List.nodup_nil, fun p => by simp, Nat.le_refl _⟩, nown_un, rfl⟩
  · rintro ρ ⟨ks, s2, s3, s4, hk, hs2, rfl⟩
    conv => whnf
    refine ⟨.inl rfl, ?_⟩
    conv => whnf
    refine vSort_keys hk ho fun qs hp hs => ?_
    have hmem : ∀ q ∈ qs, q ∈ ks := fun q h => hp.mem_iff.mp h
    have hql : qs.length ≤ rs.length := by have := hk.len; rw [hp.length_eq]; omega
    refine noOwn1 rfl hs2 ?_
    refine compL_gen tupD (fun p => decide (coef rs p ≠ 0)) (fun p => rowD (p, coef rs p)) (ρ := [.val (rowsD rs), .own (dT ks rs), .un, s3, s4]) (fun p => [.val (rowsD rs), .own (dT ks rs), .val (tupD p), s3, s4]) (fun p => rfl) _ _ (by rw [List.length_nil]; omega) (fun p hp Ka Ks ha hs => ?_) ?_
    · conv => whnf
      refine ⟨.inl rfl, _, _, keys_tup p, dT_ix (hmem p hp), ?_⟩
      conv => whnf
      have e : decide (coef rs p ≠ 0) = !decide (coef rs p = 0) := by simp
      rw [e] at ha hs
      refine ⟨fun h => ?_, fun h => hs h⟩
      conv => whnf
      refine ⟨.inl rfl, _, _, keys_tup p, dT_ix (hmem p hp), ?_⟩
      exact ha h
    · conv => whnf
      exact ⟨rfl, _, gat_of hk ho hp hs, by rw [List.nil_append]; unfold rowsD; rw [List.map_map]; rfl⟩
  · rintro done ⟨p, c⟩ rest ρ nx bk he ⟨ks, s2, s3, s4, hk, hs2, rfl⟩ hnx -
    conv => whnf
    refine ⟨.inl rfl, ?_⟩
    conv => whnf
    refine ⟨kk p, keys_tup p, rfl, ?_⟩
    have e : (dget (ks.map kk) (ks.map fun p => D.int (coef done p)) (kk p)).getD ((R.val (D.int 0)).d) = .int (coef done p) := dT_get hk p
    rw [e]
    conv => whnf
    refine ⟨.inl rfl, ?_⟩
    conv => whnf
    have hln : ks.length < lim := by
      have := hk.len
      have := congrArg List.length he
      rw [List.length_append, List.length_cons] at this
      omega
    refine ⟨_, keys_tup p, rfl, by rw [List.length_map]; exact hln, hnx _ ⟨kput ks p, .val (tupD p), .val (.int c), .val (tupD p), hk.put p c, nown_val, by rw [← dT_put]; rfl⟩⟩
theorem val_lawGL : Val Γ spGathL irLawG 4 := by
  show ∀ x : List Mono × Nat × Int, (x.1.length < lim ∧ OkR x.2.1 x.2.2 x.1) → _
  rintro ⟨rs, d, B⟩ ⟨hl, ho⟩
  have hl : rs.length < lim := hl
  show wSs Γ irLawG [.val (rowsD rs), .un, .un, .un] _ _
  unfold irLawG
  conv => whnf
  refine .inr ?_
  conv => whnf
  refine forL_gen rowD rs (fun done rest ρ => ∃ ks s2 s3, Keys ks done ∧ Slot.nown s2 ∧ ρ = [.val (rowsD rs), .own (dT ks done), s2, s3]) ?_ ?_ ⟨[], .un, .un, ⟨List.nodup_nil, fun p => by simp, Nat.le_refl _⟩, nown_un, rfl⟩
  · rintro ρ ⟨ks, s2, s3, hk, hs2, rfl⟩
    conv => whnf
    refine ⟨.inl rfl, ?_⟩
    conv => whnf
    refine vSort_keys hk ho fun qs hp hs => ?_
    have hmem : ∀ q ∈ qs, q ∈ ks := fun q h => hp.mem_iff.mp h
    have hql : qs.length ≤ rs.length := by have := hk.len; rw [hp.length_eq]; omega
    refine noOwn1 rfl hs2 ?_
    refine compL_gen tupD (fun p => decide (coef rs p ≠ 0)) (fun p => rowD (p, coef rs p)) (ρ := [.val (rowsD rs), .own (dT ks rs), .un, s3]) (fun p => [.val (rowsD rs), .own (dT ks rs), .val (tupD p), s3]) (fun p => rfl) _ _ (by rw [List.length_nil]; omega) (fun p hp Ka Ks ha hs => ?_) ?_
    · conv => whnf
      refine ⟨.inl rfl, _, _, keys_tup p, dT_ix (hmem p hp), ?_⟩
      conv => whnf
      have e : decide (coef rs p ≠ 0) = !decide (coef rs p = 0) := by simp
      rw [e] at ha hs
      refine ⟨fun h => ?_, fun h => hs h⟩
      conv => whnf
      refine ⟨.inl rfl, _, _, keys_tup p, dT_ix (hmem p hp), ?_⟩
      exact ha h
    · conv => whnf
      exact ⟨rfl, _, gat_of hk ho hp hs, by rw [List.nil_append]; unfold rowsD; rw [List.map_map]; rfl⟩
  · rintro done ⟨p, c⟩ rest ρ nx bk he ⟨ks, s2, s3, hk, hs2, rfl⟩ hnx -
    conv => whnf
    refine ⟨.inl rfl, ?_⟩
    conv => whnf
    refine ⟨kk p, keys_tup p, rfl, ?_⟩
    have e : (dget (ks.map kk) (ks.map fun p => D.int (coef done p)) (kk p)).getD ((R.val (D.int 0)).d) = .int (coef done p) := dT_get hk p
    rw [e]
    conv => whnf
    refine ⟨.inl rfl, ?_⟩
    conv => whnf
    have hln : ks.length < lim := by
      have := hk.len
      have := congrArg List.length he
      rw [List.length_append, List.length_cons] at this
      omega
    refine ⟨_, keys_tup p, rfl, by rw [List.length_map]; exact hln, hnx _ ⟨kput ks p, .val (tupD p), .val (.int c), hk.put p c, nown_val, by rw [← dT_put]; rfl⟩⟩
theorem gath_runL {n : Nat} (hG : Γ n = spGathL) {rs : List Mono} {d : Nat} {B : Int} {K : Bool → D → Prop} {E : Exc → Prop} (hl : rs.length < lim) (ho : OkR d B rs) (h : ∀ out, gatR B rs out → K true (rowsD out)) : (Γ n).run [rowsD rs] K E := by
  rw [hG]
  exact run_of (s := spGathL) (rs, d, B) rfl ⟨hl, ho⟩ (fun o e ⟨e1, out, h1, h2⟩ => by subst e1 h2; exact h out h1) fun e z => z.elim
theorem forS_lst {g : VG} {es : VEs} {b ss : VSs} {ρ : En} {Dv : VEnds} {E : VL.XK} (h : wEs Γ es ρ (fun rs ρ1 => lvs rs ρ1 (forQ (fun d ρ2 nx bk => wG g (.val d) ρ2 fun ρ3 => wSs Γ b ρ3 { nx := nx, rt := Dv.rt, bk := bk, ct := nx } E) (fun ρ1 => wSs Γ ss ρ1 Dv E) (rs.map R.d) (fzs rs ρ1))) E) : wSs Γ (.cons (.forS g (.it (.lst es)) b) ss) ρ Dv E := by
  simp only [forQ_eq] at h
  exact h
/-! ### _law_worth -/
def spWorth : VSp := ⟨Int, fun w => [.tok, .int w], fun w => w = 0 ∨ w = 1 ∨ w = 2, fun _ o d => o = false ∧ ∃ i, d = .int i ∧ bnd 204 i, fun _ _ => False⟩
def irWorth (n : Nat) : VSs := (.cons (.asg (.nm 2) (.ix (.lst (.cons (.cst (.int 9)) (.cons (.bin .Pow (.cst (.int 10)) (.cst (.int 6))) (.cons (.bin .Sub (.bin .Pow (.cst (.int 10)) (.cst (.int 60))) (.cst (.int 1))) .nil)))) (.var 1)))
  (.cons (.asg (.nm 3) (.call n (.cons (.var 0) (.cons (.cst (.int 12)) .nil))))
  (.cons (.ifS (.tv (.cmp .Lt (.var 3) (.cst (.int 4)))) (.cons (.ret (.ix (.lst (.cons (.cst (.int 0)) (.cons (.cst (.int 1)) (.cons (.neg (.cst (.int 1))) (.cons (.bin .Mult (.var 2) (.bin .Sub (.cst (.int 1)) (.bin .Mult (.cst (.int 2)) (.call n (.cons (.var 0) (.cons (.cst (.int 2)) .nil)))))) .nil))))) (.var 3)))
  .nil) .nil)
  (.cons (.ifS (.tv (.cmp .Lt (.var 3) (.cst (.int 7)))) (.cons (.ret (.bin .Sub (.call n (.cons (.var 0) (.cons (.cst (.int 19)) .nil))) (.cst (.int 9))))
  .nil) .nil)
  (.cons (.ret (.bin .Sub (.call n (.cons (.var 0) (.cons (.bin .Add (.bin .Mult (.cst (.int 2)) (.var 2)) (.cst (.int 1))) .nil))) (.var 2)))
  .nil)))))
variable {n : Nat}
theorem val_worth (hT : Γ n = vTake) : Val Γ spWorth (irWorth n) 4 := by
  show ∀ w : Int, (w = 0 ∨ w = 1 ∨ w = 2) → _
  intro w hw
  show wSs Γ (irWorth n) [.val .tok, .val (.int w), .un, .un] _ _
  have i10 : ((Builtin.Int.intBits 10 : Nat) : Int) = 4 := by decide +kernel
  unfold irWorth
  conv => whnf
  refine ⟨⟨by decide, by rw [i10]; decide⟩, ?_⟩
  conv => whnf
  refine ⟨⟨by decide, by rw [i10]; decide⟩, ?_⟩
  conv => whnf
  have key : ∀ top : Int, (9 ≤ top ∧ top < 10 ^ 60) → wSs Γ (.cons (.asg (.nm 3) (.call n (.cons (.var 0) (.cons (.cst (.int 12)) .nil))))
  (.cons (.ifS (.tv (.cmp .Lt (.var 3) (.cst (.int 4)))) (.cons (.ret (.ix (.lst (.cons (.cst (.int 0)) (.cons (.cst (.int 1)) (.cons (.neg (.cst (.int 1))) (.cons (.bin .Mult (.var 2) (.bin .Sub (.cst (.int 1)) (.bin .Mult (.cst (.int 2)) (.call n (.cons (.var 0) (.cons (.cst (.int 2)) .nil)))))) .nil))))) (.var 3)))
  .nil) .nil)
  (.cons (.ifS (.tv (.cmp .Lt (.var 3) (.cst (.int 7)))) (.cons (.ret (.bin .Sub (.call n (.cons (.var 0) (.cons (.cst (.int 19)) .nil))) (.cst (.int 9))))
  .nil) .nil)
  (.cons (.ret (.bin .Sub (.call n (.cons (.var 0) (.cons (.bin .Add (.bin .Mult (.cst (.int 2)) (.var 2)) (.cst (.int 1))) .nil))) (.var 2)))
  .nil)))) [.val .tok, .val (.int w), .val (.int top), .un] { nx := fun _ => spWorth.post w false .non, rt := spWorth.post w } (fun e _ => spWorth.exc w e) := by
    rintro top ⟨hk, hk8⟩
    have hb : ∀ i : Int, i.natAbs ≤ top.natAbs → bnd 204 i := fun i hi => by
      have e : (10 : Int) ^ 60 < 2 ^ 204 := by decide +kernel
      have e2 : ((2 ^ 204 : Nat) : Int) = 2 ^ 204 := by decide +kernel
      unfold bnd
      omega
    conv => whnf
    refine take_run (Γ := Γ) (n := n) hT (by decide +kernel) fun r h0 h1 => ?_
    conv => whnf
    refine ⟨fun q => ?_, fun q => ?_⟩
    · have q : r < 4 := of_decide_eq_true q
      conv => whnf
      refine take_run (Γ := Γ) (n := n) hT (by decide +kernel) fun t t0 t1 => ?_
      conv => whnf
      have ht : t = 0 ∨ t = 1 := by omega
      refine ⟨.inr (.inl (by decide +kernel)), ?_⟩
      conv => whnf
      refine ⟨.inr (.inr (by rcases ht with rfl | rfl <;> decide +kernel)), ?_⟩
      conv => whnf
      have hr : r = 0 ∨ r = 1 ∨ r = 2 ∨ r = 3 := by omega
      rcases hr with rfl | rfl | rfl | rfl
      · exact ⟨_, rfl, rfl, _, rfl, hb _ (by omega)⟩
      · exact ⟨_, rfl, rfl, _, rfl, hb _ (by omega)⟩
      · exact ⟨_, rfl, rfl, _, rfl, hb _ (by omega)⟩
      · refine ⟨_, rfl, rfl, _, rfl, hb _ ?_⟩
        rcases ht with rfl | rfl
        · rw [Int.mul_zero, Int.sub_zero, Int.mul_one]; exact Nat.le_refl _
        · rw [Int.natAbs_mul]; simp
    · conv => whnf
      refine ⟨fun q => ?_, fun q => ?_⟩
      · conv => whnf
        refine take_run (Γ := Γ) (n := n) hT (by decide +kernel) fun t t0 t1 => ?_
        conv => whnf
        exact ⟨rfl, _, rfl, hb _ (by omega)⟩
      · conv => whnf
        refine ⟨.inr (.inl (by decide +kernel)), ?_⟩
        conv => whnf
        refine take_run (Γ := Γ) (n := n) hT ?_ fun t t0 t1 => ?_
        · have h1 : (2 * top + 1).natAbs < 2 ^ 210 := by
            have e1 : (10 : Int) ^ 60 < 2 ^ 204 := by decide +kernel
            have e2 : ((2 ^ 210 : Nat) : Int) = 64 * 2 ^ 204 := by decide +kernel
            omega
          by_cases z : (2 * top + 1).natAbs = 0
          · rw [z]; decide
          · exact Nat.lt_trans ((Nat.log2_lt z).mpr h1) (by decide)
        · conv => whnf
          exact ⟨rfl, _, rfl, hb _ (by omega)⟩
  rcases hw with rfl | rfl | rfl
  · refine ⟨_, rfl, ?_⟩
    exact key 9 ⟨by decide, by decide +kernel⟩
  · refine ⟨_, rfl, ?_⟩
    exact key (10 ^ (6 : Int).toNat) ⟨by decide +kernel, by decide +kernel⟩
  · refine ⟨_, rfl, ?_⟩
    exact key (10 ^ (60 : Int).toNat - 1) ⟨by decide +kernel, by decide +kernel⟩
theorem worth_runZ {m : Nat} (hW : Γ m = spWorth) {w : Int} {K : Bool → D → Prop} {E : Exc → Prop} (hw : w = 0 ∨ w = 1 ∨ w = 2) (h : ∀ i : Int, bnd 204 i → K false (.int i)) : (Γ m).run [.tok, .int w] K E := by
  rw [hW]
  exact run_of (s := spWorth) (show Int from w) rfl hw (fun o d ⟨e1, i, e2, e3⟩ => by subst e1 e2; exact h i e3) fun e z => z.elim
end
end VL
set_option maxHeartbeats 0
namespace Law
open PySem PySem.Spec PyProof.Rows L2 VL
abbrev RW := PySem.Challenge.rw_skipsnought_k14_least_point_of_a_poly
abbrev R : PySem.W.OpenRow := PySem.W.OpenLaw.row RW
def top (i : Nat) : Stmt := PySem.Challenge.pw_skipsnought_k14_least_point_of_a_poly.main.body.getD i (.Pass ⟨0, 0, 0, 0⟩)
def dd (x : Str) (i : Nat) : He.DefD := ⟨(x, none), x, x, defArgs (top i), defBody (top i), defScope (top i), [], []⟩
def fn_0 : List (He.DefD) := [dd "_wall" 0, dd "number_power" 5, dd "gathered" 6, dd "check_many" 7, dd "constant" 9, dd "variable" 10, dd "least_number" 11, dd "least_point" 12, dd "_law_mix" 14, dd "_law_store" 15, dd "_law_take" 16, dd "_law_pick" 17, dd "_law_shuffle" 18, dd "_law_worth" 19, dd "_law_natural" 20, dd "_law_gathered" 21, dd "_law_times" 22, dd "_law_sole" 23, dd "_law_at" 24, dd "_law_raised" 25, dd "_law_kind" 26, dd "_law_same" 27, dd "_law_poly_is" 28, dd "_law_put_in" 29, dd "_law_wild" 30]
def fn_1 : List (He.DefD) := [dd "_law_rooted" 31, dd "_law_long" 32, dd "_law_least" 33, dd "_law_items" 34, dd "_law_point_right" 35, dd "_law_deep_right" 36, dd "law" 37, ini "WrongShape" "WrongShape.__init__" (top 3) 0, mdd "Poly" "__init__" "Poly.__init__" (top 8) 0, mdd "Poly" "__iter__" "Poly.__iter__" (top 8) 1, mdd "Poly" "__len__" "Poly.__len__" (top 8) 2, mdd "Poly" "__sub__" "Poly.__sub__" (top 8) 5, mdd "Poly" "__mul__" "Poly.__mul__" (top 8) 6, mdd "Poly" "holds" "Poly.holds" (top 8) 10, mdd "Poly" "fill_in" "Poly.fill_in" (top 8) 14]
def fn : List (He.DefD) := fn_0 ++ fn_1
def fa_0 : List (He.Fa) := [.glo "_wall", .glo "number_power", .glo "gathered", .glo "check_many", .glo "constant", .glo "variable", .glo "least_number", .glo "least_point", .glo "_law_mix", .glo "_law_store", .glo "_law_take", .glo "_law_pick", .glo "_law_shuffle", .glo "_law_worth", .glo "_law_natural", .glo "_law_gathered", .glo "_law_times", .glo "_law_sole", .glo "_law_at", .glo "_law_raised", .glo "_law_kind", .glo "_law_same", .glo "_law_poly_is", .glo "_law_put_in", .glo "_law_wild"]
def fa_1 : List (He.Fa) := [.glo "_law_rooted", .glo "_law_long", .glo "_law_least", .glo "_law_items", .glo "_law_point_right", .glo "_law_deep_right", .glo "law", .glo "WrongShape", .glo "Poly", .free "ValueError", .free "range", .free "enumerate", .free "int", .free "list", .free "tuple", .free "isinstance", .free "bool", .free "str", .free "dict", .free "iter", .free "len", .free "any", .free "abs", .free "sorted", .free "zip"]
def fa_2 : List (He.Fa) := [.free "sum", .free "min", .free "max"]
def fa : List (He.Fa) := fa_0 ++ fa_1 ++ fa_2
def rs : List (Str × List Str) := [("WrongShape", ["which"])]
def ts : List (Str × CN × List Bool) := []
def os : List (Str × List Str × List Str) := [("Poly", ["many", "monomials"], ["__init__", "__iter__", "__len__", "__sub__", "__mul__", "holds", "fill_in"])]
def cn : List (Str × List Str) := [("WrongShape", ["which"]), ("Poly", ["many", "monomials"])]
abbrev hk : PySem.W.Hook := He.hookX 5 fa fn [] [] (exO rs ts os)
def ob (s : PySem.W.SharedT) : He.AlX := He.obsX 5 fa fn [] [] (exO rs ts os) (HandSHeadRun.getT s)
theorem ob_eq (s : PySem.W.SharedT) : ob s = hk.obs s.abs := He.obsX_eq (HandSHeadRun.getT_eq s)
def loose_0 : List (Str) := ["SkipError", "WrongShape", "Poly", "_wall", "number_power", "gathered", "check_many", "constant", "variable", "least_number", "least_point", "_law_mix", "_law_store", "_law_take", "_law_pick", "_law_shuffle", "_law_worth", "_law_natural", "_law_gathered", "_law_times", "_law_sole", "_law_at", "_law_raised", "_law_kind", "_law_same"]
def loose_1 : List (Str) := ["_law_poly_is", "_law_put_in", "_law_wild", "_law_rooted", "_law_long", "_law_least", "_law_items", "_law_point_right", "_law_deep_right"]
def loose : List (Str) := loose_0 ++ loose_1
theorem run (w : World) : HandSHeadRun.RunEq R (PySem.W.view R.prog [37]) hk ob 20000 loose w := by
  intro os
  kernel_rfl

def ccons : List (Str × D) := []
def cblt : List (Str) := ["range", "enumerate", "int", "list", "tuple", "isinstance", "bool", "str", "dict", "iter", "len", "any", "abs", "sorted", "zip", "sum", "min", "max"]
def cflds : List (Str × List (Nat × Nat)) := [("which", [(0, 0)])]
def cisx : List (Str × List (Nat × Bool)) := []
def ccons2 : List (Str × Nat × Nat) := [("WrongShape", 0, 1)]
def chfns : List (Str × Nat) := []
def cmks : List (Str × Nat) := [("Poly", 32)]
def cofl : List (Str × Nat × Nat) := [("many", 1, 0), ("monomials", 1, 1)]
abbrev ccOf (N : List Str) (st : Stmt) (fns : List (Str × Nat)) (mks : List (Str × Nat)) (mtd : List (Str × Nat × Nat)) (itf : Option (Nat × Nat)) : CC := ⟨N, defScope st, fun _ => true, fns, ccons, cblt, false, cflds, cisx, ccons2, chfns, mks, cofl, mtd, itf⟩
abbrev ccX (N : List Str) (st : Stmt) (fns : List (Str × Nat)) : CC := ⟨N, defScope st, fun _ => true, fns, ccons, cblt, true, cflds, cisx, ccons2, [], [], cofl, [], none⟩
/-! _wall -/
def N0 : List Str := ["k"]
def ps0 : List Str := ["k"]
theorem sc0 : FnScope N0 ps0 (defScope (top 0)) := ⟨rfl, rfl, rfl, by decide +kernel, rfl, by decide +kernel, by decide +kernel⟩
def cc0 : CC := ccOf N0 (top 0) [] [] [] none
def ir0 : VSs := (.cons (.whl (.tv (.cst (.bl true))) (.cons .pass
  .nil))
  .nil)
theorem ir0_eq : mapS (cS 40 cc0) ((defBody (top 0))) = ir0 := by kernel_rfl
/-! number_power -/
def N1 : List Str := ["base", "exponent", "answer", "square", "left"]
def ps1 : List Str := ["base", "exponent"]
theorem sc1 : FnScope N1 ps1 (defScope (top 5)) := ⟨rfl, rfl, rfl, by decide +kernel, rfl, by decide +kernel, by decide +kernel⟩
def cc1 : CC := ccOf N1 (top 5) [] [] [] none
def ir1 : VSs := (.cons (.asg (.nm 2) (.cst (.int 1)))
  (.cons (.asg (.nm 3) (.var 0))
  (.cons (.asg (.nm 4) (.var 1))
  (.cons (.whl (.tv (.cmp .Gt (.var 4) (.cst (.int 0)))) (.cons (.ifS (.tv (.cmp .Eq (.bin .BitAnd (.var 4) (.cst (.int 1))) (.cst (.int 1)))) (.cons (.asg (.nm 2) (.bin .Mult (.var 2) (.var 3)))
  .nil) .nil)
  (.cons (.asg (.nm 4) (.bin .FloorDiv (.var 4) (.cst (.int 2))))
  (.cons (.ifS (.tv (.cmp .Gt (.var 4) (.cst (.int 0)))) (.cons (.asg (.nm 3) (.bin .Mult (.var 3) (.var 3)))
  .nil) .nil)
  .nil))))
  (.cons (.ret (.var 2))
  .nil)))))
theorem ir1_eq : mapS (cS 40 cc1) ((defBody (top 5))) = ir1 := by kernel_rfl
/-! gathered -/
def N2 : List Str := ["monomials", "total", "powers", "coefficient", "key"]
def ps2 : List Str := ["monomials"]
theorem sc2 : FnScope N2 ps2 (defScope (top 6)) := ⟨rfl, rfl, rfl, by decide +kernel, rfl, by decide +kernel, by decide +kernel⟩
def cc2 : CC := ccOf N2 (top 6) [] [] [] none
def ir2 : VSs := (.cons (.asg (.nm 1) .dnew)
  (.cons (.forS (.tp (.cons (.nm 2) (.cons (.nm 3) .nil))) (.it (.var 0)) (.cons (.asg (.nm 4) (.blt .tuple (.cons (.var 2) .nil)))
  (.cons (.setix (.var 1) (.var 4) (.bin .Add (.met .get (.var 1) (.cons (.var 4) (.cons (.cst (.int 0)) .nil))) (.var 3)))
  .nil)))
  (.cons (.ret (.comp [2] (.tup (.cons (.var 2) (.cons (.ix (.var 1) (.var 2)) .nil))) (.nm 2) (.it (.blt .sorted (.cons (.blt .list (.cons (.var 1) .nil)) .nil))) (.tv (.cmp .NotEq (.ix (.var 1) (.var 2)) (.cst (.int 0))))))
  .nil)))
theorem ir2_eq : mapS (cS 40 cc2) ((defBody (top 6))) = ir2 := by kernel_rfl
/-! check_many -/
def N3 : List Str := ["one", "two"]
def ps3 : List Str := ["one", "two"]
theorem sc3 : FnScope N3 ps3 (defScope (top 7)) := ⟨rfl, rfl, rfl, by decide +kernel, rfl, by decide +kernel, by decide +kernel⟩
def cc3 : CC := ccOf N3 (top 7) [] [] [] none
def ir3 : VSs := (.cons (.ifS (.tv (.cmp .NotEq (.fldO (.var 0) 1 0) (.fldO (.var 1) 1 0))) (.cons (.rse 0 1 (.cons (.cst (.str "poly")) .nil))
  .nil) .nil)
  .nil)
theorem ir3_eq : mapS (cS 40 cc3) ((defBody (top 7))) = ir3 := by kernel_rfl
/-! constant -/
def N4 : List Str := ["many", "n"]
def ps4 : List Str := ["many", "n"]
theorem sc4 : FnScope N4 ps4 (defScope (top 9)) := ⟨rfl, rfl, rfl, by decide +kernel, rfl, by decide +kernel, by decide +kernel⟩
def cc4 : CC := ccOf N4 (top 9) [] [("Poly", 32)] [] none
def ir4 : VSs := (.cons (.ret (.call 32 (.cons (.var 0) (.cons (.lst (.cons (.tup (.cons (.bin .Mult (.tup (.cons (.cst (.int 0)) .nil)) (.var 0)) (.cons (.var 1) .nil))) .nil)) .nil))))
  .nil)
theorem ir4_eq : mapS (cS 40 cc4) ((defBody (top 9))) = ir4 := by kernel_rfl
/-! variable -/
def N5 : List Str := ["many", "j"]
def ps5 : List Str := ["many", "j"]
theorem sc5 : FnScope N5 ps5 (defScope (top 10)) := ⟨rfl, rfl, rfl, by decide +kernel, rfl, by decide +kernel, by decide +kernel⟩
def cc5 : CC := ccOf N5 (top 10) [] [("Poly", 32)] [] none
def ir5 : VSs := (.cons (.ret (.call 32 (.cons (.var 0) (.cons (.lst (.cons (.tup (.cons (.bin .Add (.bin .Add (.bin .Mult (.tup (.cons (.cst (.int 0)) .nil)) (.var 1)) (.tup (.cons (.cst (.int 1)) .nil))) (.bin .Mult (.tup (.cons (.cst (.int 0)) .nil)) (.bin .Sub (.bin .Sub (.var 0) (.var 1)) (.cst (.int 1))))) (.cons (.cst (.int 1)) .nil))) .nil)) .nil))))
  .nil)
theorem ir5_eq : mapS (cS 40 cc5) ((defBody (top 10))) = ir5 := by kernel_rfl
/-! least_number -/
def N6 : List Str := ["p", "j", "number", "filled"]
def ps6 : List Str := ["p", "j"]
theorem sc6 : FnScope N6 ps6 (defScope (top 11)) := ⟨rfl, rfl, rfl, by decide +kernel, rfl, by decide +kernel, by decide +kernel⟩
def cc6 : CC := ccOf N6 (top 11) [] [] [("holds", 1, 36), ("fill_in", 1, 37), ("__len__", 1, 33)] none
def ir6 : VSs := (.cons (.ifS (.tnot (.tv (.mcl 1 36 (.var 0) (.cons (.var 1) .nil)))) (.cons (.ret (.tup (.cons (.cst (.int 0)) (.cons (.var 0) .nil))))
  .nil) .nil)
  (.cons (.asg (.nm 2) (.cst (.int 0)))
  (.cons (.asg (.nm 3) (.mcl 1 37 (.var 0) (.cons (.var 1) (.cons (.var 2) .nil))))
  (.cons (.whl (.tv (.cmp .Eq (.lenO 1 33 (.var 3)) (.cst (.int 0)))) (.cons (.asg (.nm 2) (.bin .Add (.var 2) (.cst (.int 1))))
  (.cons (.asg (.nm 3) (.mcl 1 37 (.var 0) (.cons (.var 1) (.cons (.var 2) .nil))))
  .nil)))
  (.cons (.ret (.tup (.cons (.var 2) (.cons (.var 3) .nil))))
  .nil)))))
theorem ir6_eq : mapS (cS 40 cc6) ((defBody (top 11))) = ir6 := by kernel_rfl
/-! least_point -/
def N7 : List Str := ["p", "point", "left", "j", "number"]
def ps7 : List Str := ["p"]
theorem sc7 : FnScope N7 ps7 (defScope (top 12)) := ⟨rfl, rfl, rfl, by decide +kernel, rfl, by decide +kernel, by decide +kernel⟩
def cc7 : CC := ccOf N7 (top 12) [("least_number", 6)] [] [("__len__", 1, 33)] none
def ir7 : VSs := (.cons (.ifS (.tv (.cmp .Eq (.lenO 1 33 (.var 0)) (.cst (.int 0)))) (.cons (.ret (.cst .non))
  .nil) .nil)
  (.cons (.asg (.nm 1) (.lst .nil))
  (.cons (.asg (.nm 2) (.var 0))
  (.cons (.forS (.nm 3) (.rng (.cons (.fldO (.var 0) 1 0) .nil)) (.cons (.asg (.tp (.cons (.nm 4) (.cons (.nm 2) .nil))) (.call 6 (.cons (.var 2) (.cons (.var 3) .nil))))
  (.cons (.ex (.met .append (.var 1) (.cons (.var 4) .nil)))
  .nil)))
  (.cons (.ret (.var 1))
  .nil)))))
theorem ir7_eq : mapS (cS 40 cc7) ((defBody (top 12))) = ir7 := by kernel_rfl
/-! _law_mix -/
abbrev N8 : List Str := ["cell", "turn", "low", "one", "two"]
abbrev ps8 : List Str := ["cell", "turn"]
theorem sc8 : FnScope N8 ps8 (defScope (top 14)) := ⟨rfl, rfl, rfl, by decide +kernel, rfl, by decide +kernel, by decide +kernel⟩
theorem ir8N_eq : NL.mapN (NL.cs 40 ⟨N8, defScope (top 14)⟩) (defBody (top 14)) = NL.ir_law_mix := by kernel_rfl
/-! _law_store -/
abbrev N9 : List Str := ["script", "cell", "cells", "seed", "k"]
abbrev ps9 : List Str := ["script"]
theorem sc9 : FnScope N9 ps9 (defScope (top 15)) := ⟨rfl, rfl, rfl, by decide +kernel, rfl, by decide +kernel, by decide +kernel⟩
/-! _law_take -/
abbrev N10 : List Str := ["store", "many", "k", "cell", "rest", "base", "got"]
abbrev ps10 : List Str := ["store", "many"]
theorem sc10 : FnScope N10 ps10 (defScope (top 16)) := ⟨rfl, rfl, rfl, by decide +kernel, rfl, by decide +kernel, by decide +kernel⟩
theorem ir10N_eq : NL.mapN (NL.cs 40 ⟨N10, defScope (top 16)⟩) (defBody (top 16)) = NL.ir_law_take := by kernel_rfl
/-! _law_pick -/
def N11 : List Str := ["store", "row"]
def ps11 : List Str := ["store", "row"]
theorem sc11 : FnScope N11 ps11 (defScope (top 17)) := ⟨rfl, rfl, rfl, by decide +kernel, rfl, by decide +kernel, by decide +kernel⟩
def cc11 : CC := ccOf N11 (top 17) [("_law_take", 10)] [] [] none
def ir11 : VSs := (.cons (.ret (.ix (.var 1) (.call 10 (.cons (.var 0) (.cons (.blt .len (.cons (.var 1) .nil)) .nil)))))
  .nil)
theorem ir11_eq : mapS (cS 40 cc11) ((defBody (top 17))) = ir11 := by kernel_rfl
/-! _law_shuffle -/
def N12 : List Str := ["store", "row", "left", "found", "k"]
def ps12 : List Str := ["store", "row"]
theorem sc12 : FnScope N12 ps12 (defScope (top 18)) := ⟨rfl, rfl, rfl, by decide +kernel, rfl, by decide +kernel, by decide +kernel⟩
def cc12 : CC := ccOf N12 (top 18) [("_law_take", 10)] [] [] none
def ir12 : VSs := (.cons (.asg (.nm 2) (.blt .list (.cons (.var 1) .nil)))
  (.cons (.asg (.nm 3) (.lst .nil))
  (.cons (.forS (.nm 4) (.rng (.cons (.blt .len (.cons (.var 1) .nil)) .nil)) (.cons (.ex (.met .append (.var 3) (.cons (.met .pop (.var 2) (.cons (.call 10 (.cons (.var 0) (.cons (.blt .len (.cons (.var 2) .nil)) .nil))) .nil)) .nil)))
  .nil))
  (.cons (.ret (.var 3))
  .nil))))
theorem ir12_eq : mapS (cS 40 cc12) ((defBody (top 18))) = ir12 := by kernel_rfl
/-! _law_worth -/
def N13 : List Str := ["store", "wide", "top", "which"]
def ps13 : List Str := ["store", "wide"]
theorem sc13 : FnScope N13 ps13 (defScope (top 19)) := ⟨rfl, rfl, rfl, by decide +kernel, rfl, by decide +kernel, by decide +kernel⟩
def cc13 : CC := ccOf N13 (top 19) [("_law_take", 10)] [] [] none
def ir13 : VSs := (.cons (.asg (.nm 2) (.ix (.lst (.cons (.cst (.int 9)) (.cons (.bin .Pow (.cst (.int 10)) (.cst (.int 6))) (.cons (.bin .Sub (.bin .Pow (.cst (.int 10)) (.cst (.int 60))) (.cst (.int 1))) .nil)))) (.var 1)))
  (.cons (.asg (.nm 3) (.call 10 (.cons (.var 0) (.cons (.cst (.int 12)) .nil))))
  (.cons (.ifS (.tv (.cmp .Lt (.var 3) (.cst (.int 4)))) (.cons (.ret (.ix (.lst (.cons (.cst (.int 0)) (.cons (.cst (.int 1)) (.cons (.neg (.cst (.int 1))) (.cons (.bin .Mult (.var 2) (.bin .Sub (.cst (.int 1)) (.bin .Mult (.cst (.int 2)) (.call 10 (.cons (.var 0) (.cons (.cst (.int 2)) .nil)))))) .nil))))) (.var 3)))
  .nil) .nil)
  (.cons (.ifS (.tv (.cmp .Lt (.var 3) (.cst (.int 7)))) (.cons (.ret (.bin .Sub (.call 10 (.cons (.var 0) (.cons (.cst (.int 19)) .nil))) (.cst (.int 9))))
  .nil) .nil)
  (.cons (.ret (.bin .Sub (.call 10 (.cons (.var 0) (.cons (.bin .Add (.bin .Mult (.cst (.int 2)) (.var 2)) (.cst (.int 1))) .nil))) (.var 2)))
  .nil)))))
theorem ir13_eq : mapS (cS 40 cc13) ((defBody (top 19))) = ir13 := by kernel_rfl
/-! _law_natural -/
def N14 : List Str := ["store", "top", "which"]
def ps14 : List Str := ["store", "top"]
theorem sc14 : FnScope N14 ps14 (defScope (top 20)) := ⟨rfl, rfl, rfl, by decide +kernel, rfl, by decide +kernel, by decide +kernel⟩
def cc14 : CC := ccOf N14 (top 20) [("_law_take", 10)] [] [] none
def ir14 : VSs := (.cons (.asg (.nm 2) (.call 10 (.cons (.var 0) (.cons (.cst (.int 12)) .nil))))
  (.cons (.ifS (.tv (.cmp .Lt (.var 2) (.cst (.int 4)))) (.cons (.ret (.ix (.lst (.cons (.cst (.int 0)) (.cons (.blt .min (.cons (.cst (.int 1)) (.cons (.var 1) .nil))) (.cons (.blt .max (.cons (.cst (.int 0)) (.cons (.bin .Sub (.var 1) (.cst (.int 1))) .nil))) (.cons (.var 1) .nil))))) (.var 2)))
  .nil) .nil)
  (.cons (.ret (.call 10 (.cons (.var 0) (.cons (.bin .Add (.var 1) (.cst (.int 1))) .nil))))
  .nil)))
theorem ir14_eq : mapS (cS 40 cc14) ((defBody (top 20))) = ir14 := by kernel_rfl
/-! _law_gathered -/
def N15 : List Str := ["rows", "found", "powers", "number"]
def ps15 : List Str := ["rows"]
theorem sc15 : FnScope N15 ps15 (defScope (top 21)) := ⟨rfl, rfl, rfl, by decide +kernel, rfl, by decide +kernel, by decide +kernel⟩
def cc15 : CC := ccOf N15 (top 21) [] [] [] none
def ir15 : VSs := (.cons (.asg (.nm 1) .dnew)
  (.cons (.forS (.tp (.cons (.nm 2) (.cons (.nm 3) .nil))) (.it (.var 0)) (.cons (.setix (.var 1) (.var 2) (.bin .Add (.met .get (.var 1) (.cons (.var 2) (.cons (.cst (.int 0)) .nil))) (.var 3)))
  .nil))
  (.cons (.ret (.comp [2] (.tup (.cons (.var 2) (.cons (.ix (.var 1) (.var 2)) .nil))) (.nm 2) (.it (.blt .sorted (.cons (.blt .list (.cons (.var 1) .nil)) .nil))) (.tv (.cmp .NotEq (.ix (.var 1) (.var 2)) (.cst (.int 0))))))
  .nil)))
theorem ir15_eq : mapS (cS 40 cc15) ((defBody (top 21))) = ir15 := by kernel_rfl
/-! _law_times -/
def N16 : List Str := ["one", "two", "found", "powers", "number", "other", "factor", "j", "both"]
def ps16 : List Str := ["one", "two"]
theorem sc16 : FnScope N16 ps16 (defScope (top 22)) := ⟨rfl, rfl, rfl, by decide +kernel, rfl, by decide +kernel, by decide +kernel⟩
def cc16 : CC := ccOf N16 (top 22) [] [] [] none
def ir16 : VSs := (.cons (.asg (.nm 2) .dnew)
  (.cons (.forS (.tp (.cons (.nm 3) (.cons (.nm 4) .nil))) (.it (.var 0)) (.cons (.forS (.tp (.cons (.nm 5) (.cons (.nm 6) .nil))) (.it (.var 1)) (.cons (.asg (.nm 8) (.blt .tuple (.cons (.comp [7] (.bin .Add (.ix (.var 3) (.var 7)) (.ix (.var 5) (.var 7))) (.nm 7) (.rng (.cons (.blt .len (.cons (.var 3) .nil)) .nil)) .tyes) .nil)))
  (.cons (.setix (.var 2) (.var 8) (.bin .Add (.met .get (.var 2) (.cons (.var 8) (.cons (.cst (.int 0)) .nil))) (.bin .Mult (.var 4) (.var 6))))
  .nil)))
  .nil))
  (.cons (.ret (.comp [3] (.tup (.cons (.var 3) (.cons (.ix (.var 2) (.var 3)) .nil))) (.nm 3) (.it (.blt .sorted (.cons (.blt .list (.cons (.var 2) .nil)) .nil))) (.tv (.cmp .NotEq (.ix (.var 2) (.var 3)) (.cst (.int 0))))))
  .nil)))
theorem ir16_eq : mapS (cS 40 cc16) ((defBody (top 22))) = ir16 := by kernel_rfl
/-! _law_sole -/
def N17 : List Str := ["many", "j", "number", "k", "unit"]
def ps17 : List Str := ["many", "j", "number"]
theorem sc17 : FnScope N17 ps17 (defScope (top 23)) := ⟨rfl, rfl, rfl, by decide +kernel, rfl, by decide +kernel, by decide +kernel⟩
def cc17 : CC := ccOf N17 (top 23) [("_law_gathered", 15)] [] [] none
def ir17 : VSs := (.cons (.asg (.nm 4) (.blt .tuple (.cons (.comp [3] (.blt .int (.cons (.cmp .Eq (.var 3) (.var 1)) .nil)) (.nm 3) (.rng (.cons (.var 0) .nil)) .tyes) .nil)))
  (.cons (.ret (.call 15 (.cons (.lst (.cons (.tup (.cons (.var 4) (.cons (.cst (.int 1)) .nil))) (.cons (.tup (.cons (.blt .tuple (.cons (.comp [3] (.cst (.int 0)) (.nm 3) (.rng (.cons (.var 0) .nil)) .tyes) .nil)) (.cons (.var 2) .nil))) .nil))) .nil)))
  .nil))
theorem ir17_eq : mapS (cS 40 cc17) ((defBody (top 23))) = ir17 := by kernel_rfl
/-! _law_at -/
def N18 : List Str := ["rows", "numbers", "total", "powers", "number", "j", "n"]
def ps18 : List Str := ["rows", "numbers"]
theorem sc18 : FnScope N18 ps18 (defScope (top 24)) := ⟨rfl, rfl, rfl, by decide +kernel, rfl, by decide +kernel, by decide +kernel⟩
def cc18 : CC := ccOf N18 (top 24) [] [] [] none
def ir18 : VSs := (.cons (.asg (.nm 2) (.cst (.int 0)))
  (.cons (.forS (.tp (.cons (.nm 3) (.cons (.nm 4) .nil))) (.it (.var 0)) (.cons (.forS (.nm 5) (.rng (.cons (.blt .len (.cons (.var 3) .nil)) .nil)) (.cons (.forS (.nm 6) (.rng (.cons (.ix (.var 3) (.var 5)) .nil)) (.cons (.asg (.nm 4) (.bin .Mult (.var 4) (.ix (.var 1) (.var 5))))
  .nil))
  .nil))
  (.cons (.aug 2 .Add (.var 4))
  .nil)))
  (.cons (.ret (.var 2))
  .nil)))
theorem ir18_eq : mapS (cS 40 cc18) ((defBody (top 24))) = ir18 := by kernel_rfl
/-! _law_raised -/
def N19 : List Str := ["number", "power", "made", "k"]
def ps19 : List Str := ["number", "power"]
theorem sc19 : FnScope N19 ps19 (defScope (top 25)) := ⟨rfl, rfl, rfl, by decide +kernel, rfl, by decide +kernel, by decide +kernel⟩
def cc19 : CC := ccOf N19 (top 25) [] [] [] none
def ir19 : VSs := (.cons (.asg (.nm 2) (.cst (.int 1)))
  (.cons (.forS (.nm 3) (.rng (.cons (.var 1) .nil)) (.cons (.asg (.nm 2) (.bin .Mult (.var 2) (.var 0)))
  .nil))
  (.cons (.ret (.var 2))
  .nil)))
theorem ir19_eq : mapS (cS 40 cc19) ((defBody (top 25))) = ir19 := by kernel_rfl
/-! _law_kind -/
def N20 : List Str := ["thing"]
def ps20 : List Str := ["thing"]
theorem sc20 : FnScope N20 ps20 (defScope (top 26)) := ⟨rfl, rfl, rfl, by decide +kernel, rfl, by decide +kernel, by decide +kernel⟩
def cc20 : CC := ccOf N20 (top 26) [] [] [] none
def ir20 : VSs := (.cons (.ifS (.tv (.cmp .Is (.var 0) (.cst .non))) (.cons (.ret (.cst (.str "none")))
  .nil) .nil)
  (.cons (.ifS (.tv (.isin (.var 0) (.bi "bool"))) (.cons (.ret (.cst (.str "bool")))
  .nil) .nil)
  (.cons (.ifS (.tv (.isin (.var 0) (.bi "int"))) (.cons (.ret (.cst (.str "int")))
  .nil) .nil)
  (.cons (.ifS (.tv (.isin (.var 0) (.bi "str"))) (.cons (.ret (.cst (.str "text")))
  .nil) .nil)
  (.cons (.ifS (.tv (.isin (.var 0) (.bi "list"))) (.cons (.ret (.cst (.str "list")))
  .nil) .nil)
  (.cons (.ifS (.tv (.isin (.var 0) (.bi "tuple"))) (.cons (.ret (.cst (.str "tuple")))
  .nil) .nil)
  (.cons (.ifS (.tv (.isin (.var 0) (.bi "dict"))) (.cons (.ret (.cst (.str "dict")))
  .nil) .nil)
  (.cons (.ret (.cst (.str "other")))
  .nil))))))))
theorem ir20_eq : mapS (cS 40 cc20) ((defBody (top 26))) = ir20 := by kernel_rfl
/-! _law_same -/
def N21 : List Str := ["told", "due", "left", "k", "one", "two", "kind", "j", "key"]
def ps21 : List Str := ["told", "due"]
theorem sc21 : FnScope N21 ps21 (defScope (top 27)) := ⟨rfl, rfl, rfl, by decide +kernel, rfl, by decide +kernel, by decide +kernel⟩
def cc21 : CC := ccOf N21 (top 27) [("_law_kind", 20)] [] [] none
def ir21 : VSs := (.cons (.asg (.nm 2) (.lst (.cons (.tup (.cons (.var 0) (.cons (.var 1) .nil))) .nil)))
  (.cons (.forS (.nm 3) (.rng (.cons (.cst (.int 100001)) .nil)) (.cons (.ifS (.tv (.cmp .Eq (.blt .len (.cons (.var 2) .nil)) (.cst (.int 0)))) (.cons (.ret (.cst (.bl true)))
  .nil) .nil)
  (.cons (.asg (.tp (.cons (.nm 4) (.cons (.nm 5) .nil))) (.met .pop (.var 2) .nil))
  (.cons (.asg (.nm 6) (.call 20 (.cons (.var 5) .nil)))
  (.cons (.ifS (.tor (.tv (.cmp .Eq (.var 6) (.cst (.str "other")))) (.tv (.cmp .NotEq (.call 20 (.cons (.var 4) .nil)) (.var 6)))) (.cons (.ret (.cst (.bl false)))
  .nil) .nil)
  (.cons (.ifS (.tor (.tv (.cmp .Eq (.var 6) (.cst (.str "list")))) (.tv (.cmp .Eq (.var 6) (.cst (.str "tuple"))))) (.cons (.ifS (.tv (.cmp .NotEq (.blt .len (.cons (.var 4) .nil)) (.blt .len (.cons (.var 5) .nil)))) (.cons (.ret (.cst (.bl false)))
  .nil) .nil)
  (.cons (.forS (.nm 7) (.rng (.cons (.blt .len (.cons (.var 5) .nil)) .nil)) (.cons (.ex (.met .append (.var 2) (.cons (.tup (.cons (.ix (.var 4) (.var 7)) (.cons (.ix (.var 5) (.var 7)) .nil))) .nil)))
  .nil))
  .nil)) (.cons (.ifS (.tv (.cmp .Eq (.var 6) (.cst (.str "dict")))) (.cons (.ifS (.tv (.cmp .NotEq (.blt .len (.cons (.var 4) .nil)) (.blt .len (.cons (.var 5) .nil)))) (.cons (.ret (.cst (.bl false)))
  .nil) .nil)
  (.cons (.forS (.nm 8) (.it (.blt .list (.cons (.var 4) .nil))) (.cons (.ifS (.tor (.tv (.cmp .Eq (.call 20 (.cons (.var 8) .nil)) (.cst (.str "bool")))) (.tv (.cmp .NotIn (.var 8) (.var 5)))) (.cons (.ret (.cst (.bl false)))
  .nil) .nil)
  (.cons (.ex (.met .append (.var 2) (.cons (.tup (.cons (.ix (.var 4) (.var 8)) (.cons (.ix (.var 5) (.var 8)) .nil))) .nil)))
  .nil)))
  .nil)) (.cons (.ifS (.tv (.cmp .NotEq (.var 4) (.var 5))) (.cons (.ret (.cst (.bl false)))
  .nil) .nil)
  .nil))
  .nil))
  .nil))))))
  (.cons (.ret (.cst (.bl false)))
  .nil)))
theorem ir21_eq : mapS (cS 40 cc21) ((defBody (top 27))) = ir21 := by kernel_rfl
/-! _law_poly_is -/
def N22 : List Str := ["told", "many", "rows"]
def ps22 : List Str := ["told", "many", "rows"]
theorem sc22 : FnScope N22 ps22 (defScope (top 28)) := ⟨rfl, rfl, rfl, by decide +kernel, rfl, by decide +kernel, by decide +kernel⟩
def cc22 : CC := ccOf N22 (top 28) [("_law_same", 21)] [] [("__len__", 1, 33)] (some (1, 1))
def ir22 : VSs := (.cons (.ret (.andE (.call 21 (.cons (.lstO 1 1 (.var 0)) (.cons (.var 2) .nil))) (.andE (.call 21 (.cons (.fldO (.var 0) 1 0) (.cons (.var 1) .nil))) (.cmp .Eq (.lenO 1 33 (.var 0)) (.lenO 1 33 (.var 2))))))
  .nil)
theorem ir22_eq : mapS (cS 40 cc22) ((defBody (top 28))) = ir22 := by kernel_rfl
/-! _law_put_in -/
def N23 : List Str := ["rows", "j", "number", "made", "powers", "factor"]
def ps23 : List Str := ["rows", "j", "number"]
theorem sc23 : FnScope N23 ps23 (defScope (top 29)) := ⟨rfl, rfl, rfl, by decide +kernel, rfl, by decide +kernel, by decide +kernel⟩
def cc23 : CC := ccOf N23 (top 29) [("_law_gathered", 15), ("_law_raised", 19)] [] [] none
def ir23 : VSs := (.cons (.asg (.nm 3) (.lst .nil))
  (.cons (.forS (.tp (.cons (.nm 4) (.cons (.nm 5) .nil))) (.it (.var 0)) (.cons (.ex (.met .append (.var 3) (.cons (.tup (.cons (.bin .Add (.bin .Add (.sl (.var 4) .none (.some (.var 1))) (.tup (.cons (.cst (.int 0)) .nil))) (.sl (.var 4) (.some (.bin .Add (.var 1) (.cst (.int 1)))) .none)) (.cons (.bin .Mult (.var 5) (.call 19 (.cons (.var 2) (.cons (.ix (.var 4) (.var 1)) .nil)))) .nil))) .nil)))
  .nil))
  (.cons (.ret (.call 15 (.cons (.var 3) .nil)))
  .nil)))
theorem ir23_eq : mapS (cS 40 cc23) ((defBody (top 29))) = ir23 := by kernel_rfl
/-! _law_wild -/
def N24 : List Str := ["store", "many", "top", "wide", "found", "k", "j", "powers", "n"]
def ps24 : List Str := ["store", "many", "top", "wide"]
theorem sc24 : FnScope N24 ps24 (defScope (top 30)) := ⟨rfl, rfl, rfl, by decide +kernel, rfl, by decide +kernel, by decide +kernel⟩
def cc24 : CC := ccOf N24 (top 30) [("_law_take", 10), ("_law_worth", 13), ("_law_natural", 14)] [] [] none
def ir24 : VSs := (.cons (.asg (.nm 4) (.lst .nil))
  (.cons (.forS (.nm 5) (.rng (.cons (.bin .Add (.cst (.int 1)) (.call 10 (.cons (.var 0) (.cons (.cst (.int 6)) .nil)))) .nil)) (.cons (.asg (.nm 7) (.comp [6] (.cst (.int 0)) (.nm 6) (.rng (.cons (.var 1) .nil)) .tyes))
  (.cons (.ifS (.tv (.cmp .Gt (.var 1) (.cst (.int 0)))) (.cons (.forS (.nm 8) (.rng (.cons (.cst (.int 3)) .nil)) (.cons (.setix (.var 7) (.call 10 (.cons (.var 0) (.cons (.var 1) .nil))) (.call 14 (.cons (.var 0) (.cons (.var 2) .nil))))
  .nil))
  .nil) .nil)
  (.cons (.ex (.met .append (.var 4) (.cons (.tup (.cons (.blt .tuple (.cons (.var 7) .nil)) (.cons (.call 13 (.cons (.var 0) (.cons (.var 3) .nil))) .nil))) .nil)))
  .nil))))
  (.cons (.ret (.var 4))
  .nil)))
theorem ir24_eq : mapS (cS 40 cc24) ((defBody (top 30))) = ir24 := by kernel_rfl
/-! _law_rooted -/
def N25 : List Str := ["store", "many", "k", "rows", "n", "j", "size", "gap", "root"]
def ps25 : List Str := ["store", "many"]
theorem sc25 : FnScope N25 ps25 (defScope (top 31)) := ⟨rfl, rfl, rfl, by decide +kernel, rfl, by decide +kernel, by decide +kernel⟩
def cc25 : CC := ccOf N25 (top 31) [("_law_take", 10), ("_law_pick", 11), ("_law_times", 16), ("_law_sole", 17)] [] [] none
def ir25 : VSs := (.cons (.asg (.nm 3) (.lst (.cons (.tup (.cons (.blt .tuple (.cons (.comp [2] (.cst (.int 0)) (.nm 2) (.rng (.cons (.var 1) .nil)) .tyes) .nil)) (.cons (.call 11 (.cons (.var 0) (.cons (.lst (.cons (.cst (.int 1)) (.cons (.neg (.cst (.int 1))) (.cons (.cst (.int 2)) (.cons (.neg (.cst (.int 7))) (.cons (.bin .Pow (.cst (.int 10)) (.cst (.int 40))) .nil)))))) .nil))) .nil))) .nil)))
  (.cons (.forS (.nm 4) (.rng (.cons (.cst (.int 3)) .nil)) (.cons (.asg (.nm 5) (.call 10 (.cons (.var 0) (.cons (.var 1) .nil))))
  (.cons (.asg (.nm 6) (.call 10 (.cons (.var 0) (.cons (.cst (.int 4)) .nil))))
  (.cons (.asg (.nm 7) (.call 10 (.cons (.var 0) (.cons (.cst (.int 9)) .nil))))
  (.cons (.forS (.nm 8) (.rng (.cons (.var 6) .nil)) (.cons (.ifS (.tv (.cmp .NotEq (.var 8) (.var 7))) (.cons (.asg (.nm 3) (.call 16 (.cons (.var 3) (.cons (.call 17 (.cons (.var 1) (.cons (.var 5) (.cons (.neg (.var 8)) .nil)))) .nil))))
  .nil) .nil)
  .nil))
  .nil)))))
  (.cons (.ret (.var 3))
  .nil)))
theorem ir25_eq : mapS (cS 40 cc25) ((defBody (top 31))) = ir25 := by kernel_rfl
/-! _law_long -/
def N26 : List Str := ["store", "many", "j", "size", "power", "k", "parts", "root", "shifted_up", "rows", "n"]
def ps26 : List Str := ["store", "many"]
theorem sc26 : FnScope N26 ps26 (defScope (top 32)) := ⟨rfl, rfl, rfl, by decide +kernel, rfl, by decide +kernel, by decide +kernel⟩
def cc26 : CC := ccOf N26 (top 32) [("_law_take", 10), ("_law_pick", 11)] [] [] none
def ir26 : VSs := (.cons (.asg (.nm 2) (.call 10 (.cons (.var 0) (.cons (.var 1) .nil))))
  (.cons (.asg (.nm 3) (.call 11 (.cons (.var 0) (.cons (.lst (.cons (.cst (.int 1)) (.cons (.cst (.int 5)) (.cons (.cst (.int 17)) (.cons (.cst (.int 43)) (.cons (.cst (.int 44)) .nil)))))) .nil))))
  (.cons (.asg (.nm 4) (.call 11 (.cons (.var 0) (.cons (.lst (.cons (.cst (.int 0)) (.cons (.cst (.int 1)) (.cons (.cst (.int 16)) .nil)))) .nil))))
  (.cons (.asg (.nm 6) (.bin .Add (.comp [5] (.cst (.int 0)) (.nm 5) (.rng (.cons (.var 4) .nil)) .tyes) (.lst (.cons (.cst (.int 1)) .nil))))
  (.cons (.forS (.nm 7) (.rng (.cons (.cst (.int 1)) (.cons (.bin .Add (.var 3) (.cst (.int 1))) .nil))) (.cons (.asg (.nm 8) (.bin .Add (.lst (.cons (.cst (.int 0)) .nil)) (.var 6)))
  (.cons (.forS (.nm 5) (.rng (.cons (.blt .len (.cons (.var 6) .nil)) .nil)) (.cons (.augix (.var 8) (.var 5) .Sub (.bin .Mult (.var 7) (.ix (.var 6) (.var 5))))
  .nil))
  (.cons (.asg (.nm 6) (.blt .list (.cons (.var 8) .nil)))
  .nil))))
  (.cons (.asg (.nm 9) (.lst .nil))
  (.cons (.forS (.nm 5) (.rng (.cons (.blt .len (.cons (.var 6) .nil)) .nil)) (.cons (.ifS (.tv (.cmp .NotEq (.ix (.var 6) (.var 5)) (.cst (.int 0)))) (.cons (.ex (.met .append (.var 9) (.cons (.tup (.cons (.blt .tuple (.cons (.comp [10] (.bin .Mult (.var 5) (.blt .int (.cons (.cmp .Eq (.var 10) (.var 2)) .nil))) (.nm 10) (.rng (.cons (.var 1) .nil)) .tyes) .nil)) (.cons (.ix (.var 6) (.var 5)) .nil))) .nil)))
  .nil) .nil)
  .nil))
  (.cons (.ret (.var 9))
  .nil))))))))
theorem ir26_eq : mapS (cS 40 cc26) ((defBody (top 32))) = ir26 := by kernel_rfl
/-! _law_least -/
def N27 : List Str := ["rows", "many", "found", "left", "j", "number", "row", "trial"]
def ps27 : List Str := ["rows", "many"]
theorem sc27 : FnScope N27 ps27 (defScope (top 33)) := ⟨rfl, rfl, rfl, by decide +kernel, rfl, by decide +kernel, by decide +kernel⟩
def cc27 : CC := ccOf N27 (top 33) [("_law_put_in", 23)] [] [] none
def ir27 : VSs := (.cons (.asg (.nm 2) (.lst .nil))
  (.cons (.asg (.nm 3) (.var 0))
  (.cons (.forS (.nm 4) (.rng (.cons (.var 1) .nil)) (.cons (.asg (.nm 5) (.cst (.int 0)))
  (.cons (.ifS (.tv (.cmp .Gt (.blt .sum (.cons (.comp [6] (.ix (.ix (.var 6) (.cst (.int 0))) (.var 4)) (.nm 6) (.it (.var 3)) .tyes) .nil)) (.cst (.int 0)))) (.cons (.forS (.nm 7) (.rng (.cons (.cst (.int 62)) .nil)) (.cons (.asg (.nm 5) (.var 7))
  (.cons (.ifS (.tv (.cmp .Gt (.blt .len (.cons (.call 23 (.cons (.var 3) (.cons (.var 4) (.cons (.var 7) .nil)))) .nil)) (.cst (.int 0)))) (.cons .brk
  .nil) .nil)
  .nil)))
  (.cons (.asg (.nm 3) (.call 23 (.cons (.var 3) (.cons (.var 4) (.cons (.var 5) .nil)))))
  .nil)) .nil)
  (.cons (.ex (.met .append (.var 2) (.cons (.var 5) .nil)))
  .nil))))
  (.cons (.ret (.var 2))
  .nil))))
theorem ir27_eq : mapS (cS 40 cc27) ((defBody (top 33))) = ir27 := by kernel_rfl
/-! _law_items -/
def N28 : List Str := ["store", "many", "form", "number", "j", "rows"]
def ps28 : List Str := ["store", "many", "form"]
theorem sc28 : FnScope N28 ps28 (defScope (top 34)) := ⟨rfl, rfl, rfl, by decide +kernel, rfl, by decide +kernel, by decide +kernel⟩
def cc28 : CC := ccOf N28 (top 34) [("_law_take", 10), ("_law_times", 16), ("_law_wild", 24), ("_law_rooted", 25), ("_law_long", 26)] [] [] none
def ir28 : VSs := (.cons (.ifS (.tor (.tv (.cmp .Eq (.var 2) (.cst (.int 0)))) (.tv (.cmp .Eq (.var 1) (.cst (.int 0))))) (.cons (.ret (.call 24 (.cons (.var 0) (.cons (.var 1) (.cons (.cst (.int 3)) (.cons (.call 10 (.cons (.var 0) (.cons (.cst (.int 3)) .nil))) .nil))))))
  .nil) .nil)
  (.cons (.ifS (.tv (.cmp .Eq (.var 2) (.cst (.int 1)))) (.cons (.ret (.call 24 (.cons (.var 0) (.cons (.var 1) (.cons (.cst (.int 60)) (.cons (.cst (.int 0)) .nil))))))
  .nil) .nil)
  (.cons (.ifS (.tv (.cmp .Eq (.var 2) (.cst (.int 2)))) (.cons (.ret (.call 26 (.cons (.var 0) (.cons (.var 1) .nil))))
  .nil) .nil)
  (.cons (.ifS (.tv (.cmp .Eq (.var 2) (.cst (.int 6)))) (.cons (.asg (.nm 3) (.bin .Add (.cst (.int 1)) (.call 10 (.cons (.var 0) (.cons (.bin .Pow (.cst (.int 10)) (.cst (.int 59))) .nil)))))
  (.cons (.ret (.lst (.cons (.tup (.cons (.blt .tuple (.cons (.comp [4] (.cst (.int 1)) (.nm 4) (.rng (.cons (.var 1) .nil)) .tyes) .nil)) (.cons (.var 3) .nil))) (.cons (.tup (.cons (.blt .tuple (.cons (.comp [4] (.cst (.int 2)) (.nm 4) (.rng (.cons (.var 1) .nil)) .tyes) .nil)) (.cons (.neg (.var 3)) .nil))) .nil))))
  .nil)) .nil)
  (.cons (.asg (.nm 5) (.call 25 (.cons (.var 0) (.cons (.var 1) .nil))))
  (.cons (.ifS (.tv (.cmp .Eq (.var 2) (.cst (.int 3)))) (.cons (.asg (.nm 5) (.bin .Add (.var 5) (.call 25 (.cons (.var 0) (.cons (.var 1) .nil)))))
  .nil) .nil)
  (.cons (.ifS (.tand (.tv (.cmp .Eq (.var 2) (.cst (.int 4)))) (.tv (.cmp .Lt (.var 1) (.cst (.int 6))))) (.cons (.asg (.nm 5) (.call 16 (.cons (.var 5) (.cons (.call 24 (.cons (.var 0) (.cons (.var 1) (.cons (.cst (.int 3)) (.cons (.cst (.int 0)) .nil))))) .nil))))
  .nil) .nil)
  (.cons (.ret (.var 5))
  .nil))))))))
theorem ir28_eq : mapS (cS 40 cc28) ((defBody (top 34))) = ir28 := by kernel_rfl
/-! _law_point_right -/
def N29 : List Str := ["p", "many", "rows", "due", "told", "k"]
def ps29 : List Str := ["p", "many", "rows"]
theorem sc29 : FnScope N29 ps29 (defScope (top 35)) := ⟨rfl, rfl, rfl, by decide +kernel, rfl, by decide +kernel, by decide +kernel⟩
def cc29 : CC := ccOf N29 (top 35) [("least_point", 7), ("_law_at", 18), ("_law_same", 21), ("_law_poly_is", 22), ("_law_least", 27)] [] [] none
def ir29 : VSs := (.cons (.asg (.nm 3) (.call 27 (.cons (.var 2) (.cons (.var 1) .nil))))
  (.cons (.asg (.nm 4) (.call 7 (.cons (.var 0) .nil)))
  (.cons (.ifS (.tnot (.tv (.call 21 (.cons (.var 4) (.cons (.var 3) .nil))))) (.cons (.ret (.cst (.bl false)))
  .nil) .nil)
  (.cons (.ifS (.tv (.cmp .Eq (.call 18 (.cons (.var 2) (.cons (.var 4) .nil))) (.cst (.int 0)))) (.cons (.ret (.cst (.bl false)))
  .nil) .nil)
  (.cons (.ex (.met .append (.var 4) (.cons (.cst (.int 7)) .nil)))
  (.cons (.forS (.nm 5) (.rng (.cons (.blt .len (.cons (.var 4) .nil)) .nil)) (.cons (.setix (.var 4) (.var 5) (.bin .Add (.ix (.var 4) (.var 5)) (.cst (.int 1))))
  .nil))
  (.cons (.ret (.andE (.call 21 (.cons (.call 7 (.cons (.var 0) .nil)) (.cons (.var 3) .nil))) (.call 22 (.cons (.var 0) (.cons (.var 1) (.cons (.var 2) .nil))))))
  .nil)))))))
theorem ir29_eq : mapS (cS 40 cc29) ((defBody (top 35))) = ir29 := by kernel_rfl
/-! _law_deep_right -/
def N30 : List Str := ["many", "j", "size", "x", "made", "root", "k"]
def ps30 : List Str := ["many", "j", "size"]
theorem sc30 : FnScope N30 ps30 (defScope (top 36)) := ⟨rfl, rfl, rfl, by decide +kernel, rfl, by decide +kernel, by decide +kernel⟩
def cc30 : CC := ccOf N30 (top 36) [("constant", 4), ("variable", 5), ("least_point", 7), ("_law_same", 21)] [] [("__sub__", 1, 34), ("__mul__", 1, 35)] none
def ir30 : VSs := (.cons (.asg (.nm 3) (.call 5 (.cons (.var 0) (.cons (.var 1) .nil))))
  (.cons (.asg (.nm 4) (.call 4 (.cons (.var 0) (.cons (.cst (.int 1)) .nil))))
  (.cons (.forS (.nm 5) (.rng (.cons (.var 2) .nil)) (.cons (.ifS (.tv (.cmp .Eq (.var 5) (.bin .FloorDiv (.var 2) (.cst (.int 2))))) (.cons (.ifS (.tnot (.tv (.call 21 (.cons (.call 7 (.cons (.var 4) .nil)) (.cons (.comp [6] (.binO .Mult 1 35 (.var 5) (.blt .int (.cons (.cmp .Eq (.var 6) (.var 1)) .nil))) (.nm 6) (.rng (.cons (.var 0) .nil)) .tyes) .nil))))) (.cons (.ret (.cst (.bl false)))
  .nil) .nil)
  .nil) .nil)
  (.cons (.asg (.nm 4) (.binO .Mult 1 35 (.var 4) (.binO .Sub 1 34 (.var 3) (.call 4 (.cons (.var 0) (.cons (.var 5) .nil))))))
  .nil)))
  (.cons (.ret (.call 21 (.cons (.call 7 (.cons (.var 4) .nil)) (.cons (.comp [6] (.binO .Mult 1 35 (.var 2) (.blt .int (.cons (.cmp .Eq (.var 6) (.var 1)) .nil))) (.nm 6) (.rng (.cons (.var 0) .nil)) .tyes) .nil))))
  .nil))))
theorem ir30_eq : mapS (cS 40 cc30) ((defBody (top 36))) = ir30 := by kernel_rfl
/-! law -/
def N31 : List Str := ["script", "store", "form", "many", "one", "two", "row", "empty", "p", "q", "thing", "items", "rows", "none"]
def ps31 : List Str := ["script"]
theorem sc31 : FnScope N31 ps31 (defScope (top 37)) := ⟨rfl, rfl, rfl, by decide +kernel, rfl, by decide +kernel, by decide +kernel⟩
def cc31 : CC := ccOf N31 (top 37) [("least_point", 7), ("_law_take", 10), ("_law_pick", 11), ("_law_shuffle", 12), ("_law_gathered", 15), ("_law_items", 28), ("_law_point_right", 29), ("_law_deep_right", 30)] [("Poly", 32)] [("__sub__", 1, 34)] none
def ir31 : VSs := (.cons (.asg (.nm 2) (.call 11 (.cons (.var 1) (.cons (.lst (.cons (.cst (.int 0)) (.cons (.cst (.int 0)) (.cons (.cst (.int 0)) (.cons (.cst (.int 1)) (.cons (.cst (.int 2)) (.cons (.cst (.int 3)) (.cons (.cst (.int 3)) (.cons (.cst (.int 4)) (.cons (.cst (.int 4)) (.cons (.cst (.int 5)) (.cons (.cst (.int 5)) (.cons (.cst (.int 5)) (.cons (.cst (.int 6)) .nil)))))))))))))) .nil))))
  (.cons (.asg (.nm 3) (.call 11 (.cons (.var 1) (.cons (.lst (.cons (.cst (.int 0)) (.cons (.cst (.int 1)) (.cons (.cst (.int 1)) (.cons (.cst (.int 1)) (.cons (.cst (.int 2)) (.cons (.cst (.int 2)) (.cons (.cst (.int 3)) (.cons (.cst (.int 4)) (.cons (.cst (.int 5)) (.cons (.cst (.int 6)) (.cons (.cst (.int 9)) (.cons (.cst (.int 64)) .nil))))))))))))) .nil))))
  (.cons (.asg (.nm 4) (.call 28 (.cons (.var 1) (.cons (.var 3) (.cons (.var 2) .nil)))))
  (.cons (.asg (.nm 5) (.call 28 (.cons (.var 1) (.cons (.var 3) (.cons (.cst (.int 0)) .nil)))))
  (.cons (.asg (.nm 7) (.bin .Add (.var 4) (.comp [6] (.tup (.cons (.ix (.var 6) (.cst (.int 0))) (.cons (.neg (.ix (.var 6) (.cst (.int 1)))) .nil))) (.nm 6) (.it (.var 4)) .tyes)))
  (.cons (.asg (.nm 8) (.call 32 (.cons (.var 3) (.cons (.call 12 (.cons (.var 1) (.cons (.var 4) .nil))) .nil))))
  (.cons (.asg (.nm 9) (.call 32 (.cons (.var 3) (.cons (.blt .list (.cons (.var 5) .nil)) .nil))))
  (.cons (.forS (.tp (.cons (.nm 10) (.cons (.nm 11) .nil))) (.it (.lst (.cons (.tup (.cons (.var 8) (.cons (.var 4) .nil))) (.cons (.tup (.cons (.var 9) (.cons (.var 5) .nil))) (.cons (.tup (.cons (.var 8) (.cons (.var 4) .nil))) .nil))))) (.cons (.asg (.nm 12) (.call 15 (.cons (.var 11) .nil)))
  (.cons (.ifS (.tv (.cmp .Eq (.blt .len (.cons (.var 12) .nil)) (.cst (.int 0)))) (.cons (.ifS (.tv (.cmp .IsNot (.call 7 (.cons (.var 10) .nil)) (.cst .non))) (.cons (.ret (.cst (.bl false)))
  .nil) .nil)
  .nil) (.cons (.ifS (.tnot (.tv (.call 29 (.cons (.var 10) (.cons (.var 3) (.cons (.var 12) .nil)))))) (.cons (.ret (.cst (.bl false)))
  .nil) .nil)
  .nil))
  .nil)))
  (.cons (.ifS (.tand (.tv (.cmp .Eq (.var 2) (.cst (.int 2)))) (.tand (.tv (.cmp .Gt (.var 3) (.cst (.int 0)))) (.tnot (.tv (.call 30 (.cons (.var 3) (.cons (.call 10 (.cons (.var 1) (.cons (.var 3) .nil))) (.cons (.call 11 (.cons (.var 1) (.cons (.lst (.cons (.cst (.int 58)) (.cons (.cst (.int 59)) (.cons (.cst (.int 60)) .nil)))) .nil))) .nil)))))))) (.cons (.ret (.cst (.bl false)))
  .nil) .nil)
  (.cons (.asg (.nm 13) (.call 32 (.cons (.var 3) (.cons (.call 12 (.cons (.var 1) (.cons (.var 7) .nil))) .nil))))
  (.cons (.ret (.andE (.cmp .Is (.call 7 (.cons (.var 13) .nil)) (.cst .non)) (.andE (.cmp .Is (.call 7 (.cons (.call 32 (.cons (.var 3) (.cons (.lst .nil) .nil))) .nil)) (.cst .non)) (.cmp .Is (.call 7 (.cons (.binO .Sub 1 34 (.var 8) (.var 8)) .nil)) (.cst .non)))))
  .nil)))))))))))
theorem ir31_eq : mapS (cS 40 cc31) ((defBody (top 37)).tail) = ir31 := by kernel_rfl
/-! Poly.__init__ -/
def N32 : List Str := ["self", "many", "monomials"]
def ps32 : List Str := ["self", "many", "monomials"]
theorem sc32 : FnScope N32 ps32 (defScope (clsFn (top 8) 0)) := ⟨rfl, rfl, rfl, by decide +kernel, rfl, by decide +kernel, by decide +kernel⟩
def cc32 : CC := ccOf N32 (clsFn (top 8) 0) [("gathered", 2)] [] [] none
def ir32 : List (Str × VE) := [("many", (.var 1)), ("monomials", (.call 2 (.cons (.var 2) .nil)))]
theorem ir32_eq : initV 40 cc32 (defBody (clsFn (top 8) 0)) = some ir32 := by kernel_rfl

/-! Poly.__len__ -/
def N33 : List Str := ["self"]
def ps33 : List Str := ["self"]
theorem sc33 : FnScope N33 ps33 (defScope (clsFn (top 8) 2)) := ⟨rfl, rfl, rfl, by decide +kernel, rfl, by decide +kernel, by decide +kernel⟩
def cc33 : CC := ccOf N33 (clsFn (top 8) 2) [] [] [] none
def ir33 : VSs := (.cons (.ret (.blt .len (.cons (.fldO (.var 0) 1 1) .nil)))
  .nil)
theorem ir33_eq : mapS (cS 40 cc33) ((defBody (clsFn (top 8) 2))) = ir33 := by kernel_rfl
/-! Poly.__sub__ -/
def N34 : List Str := ["self", "other", "powers", "coefficient", "taken"]
def ps34 : List Str := ["self", "other"]
theorem sc34 : FnScope N34 ps34 (defScope (clsFn (top 8) 5)) := ⟨rfl, rfl, rfl, by decide +kernel, rfl, by decide +kernel, by decide +kernel⟩
def cc34 : CC := ccOf N34 (clsFn (top 8) 5) [("check_many", 3)] [("Poly", 32)] [] none
def ir34 : VSs := (.cons (.ex (.call 3 (.cons (.var 0) (.cons (.var 1) .nil))))
  (.cons (.asg (.nm 4) (.comp [2, 3] (.tup (.cons (.var 2) (.cons (.neg (.var 3)) .nil))) (.tp (.cons (.nm 2) (.cons (.nm 3) .nil))) (.it (.fldO (.var 1) 1 1)) .tyes))
  (.cons (.ret (.call 32 (.cons (.fldO (.var 0) 1 0) (.cons (.bin .Add (.fldO (.var 0) 1 1) (.var 4)) .nil))))
  .nil)))
theorem ir34_eq : mapS (cS 40 cc34) ((defBody (clsFn (top 8) 5))) = ir34 := by kernel_rfl
/-! Poly.__mul__ -/
def N35 : List Str := ["self", "other", "products", "powers", "coefficient", "others", "number", "one", "two", "summed"]
def ps35 : List Str := ["self", "other"]
theorem sc35 : FnScope N35 ps35 (defScope (clsFn (top 8) 6)) := ⟨rfl, rfl, rfl, by decide +kernel, rfl, by decide +kernel, by decide +kernel⟩
def cc35 : CC := ccOf N35 (clsFn (top 8) 6) [("check_many", 3)] [("Poly", 32)] [] none
def ir35 : VSs := (.cons (.ex (.call 3 (.cons (.var 0) (.cons (.var 1) .nil))))
  (.cons (.asg (.nm 2) (.lst .nil))
  (.cons (.forS (.tp (.cons (.nm 3) (.cons (.nm 4) .nil))) (.it (.fldO (.var 0) 1 1)) (.cons (.forS (.tp (.cons (.nm 5) (.cons (.nm 6) .nil))) (.it (.fldO (.var 1) 1 1)) (.cons (.asg (.nm 9) (.blt .tuple (.cons (.comp [7, 8] (.bin .Add (.var 7) (.var 8)) (.tp (.cons (.nm 7) (.cons (.nm 8) .nil))) (.zip (.var 3) (.var 5)) .tyes) .nil)))
  (.cons (.ex (.met .append (.var 2) (.cons (.tup (.cons (.var 9) (.cons (.bin .Mult (.var 4) (.var 6)) .nil))) .nil)))
  .nil)))
  .nil))
  (.cons (.ret (.call 32 (.cons (.fldO (.var 0) 1 0) (.cons (.var 2) .nil))))
  .nil))))
theorem ir35_eq : mapS (cS 40 cc35) ((defBody (clsFn (top 8) 6))) = ir35 := by kernel_rfl
/-! Poly.holds -/
def N36 : List Str := ["self", "j", "powers", "spare"]
def ps36 : List Str := ["self", "j"]
theorem sc36 : FnScope N36 ps36 (defScope (clsFn (top 8) 10)) := ⟨rfl, rfl, rfl, by decide +kernel, rfl, by decide +kernel, by decide +kernel⟩
def cc36 : CC := ccOf N36 (clsFn (top 8) 10) [] [] [] none
def ir36 : VSs := (.cons (.ret (.blt .any (.cons (.comp [2, 3] (.cmp .Gt (.ix (.var 2) (.var 1)) (.cst (.int 0))) (.tp (.cons (.nm 2) (.cons (.nm 3) .nil))) (.it (.fldO (.var 0) 1 1)) .tyes) .nil)))
  .nil)
theorem ir36_eq : mapS (cS 40 cc36) ((defBody (clsFn (top 8) 10))) = ir36 := by kernel_rfl
/-! Poly.fill_in -/
def N37 : List Str := ["self", "j", "number", "filled", "powers", "coefficient", "others"]
def ps37 : List Str := ["self", "j", "number"]
theorem sc37 : FnScope N37 ps37 (defScope (clsFn (top 8) 14)) := ⟨rfl, rfl, rfl, by decide +kernel, rfl, by decide +kernel, by decide +kernel⟩
def cc37 : CC := ccOf N37 (clsFn (top 8) 14) [("number_power", 1)] [("Poly", 32)] [] none
def ir37 : VSs := (.cons (.asg (.nm 3) (.lst .nil))
  (.cons (.forS (.tp (.cons (.nm 4) (.cons (.nm 5) .nil))) (.it (.fldO (.var 0) 1 1)) (.cons (.asg (.nm 6) (.bin .Add (.bin .Add (.sl (.var 4) .none (.some (.var 1))) (.tup (.cons (.cst (.int 0)) .nil))) (.sl (.var 4) (.some (.bin .Add (.var 1) (.cst (.int 1)))) .none)))
  (.cons (.ex (.met .append (.var 3) (.cons (.tup (.cons (.var 6) (.cons (.bin .Mult (.var 5) (.call 1 (.cons (.var 2) (.cons (.ix (.var 4) (.var 1)) .nil)))) .nil))) .nil)))
  .nil)))
  (.cons (.ret (.call 32 (.cons (.fldO (.var 0) 1 0) (.cons (.var 3) .nil))))
  .nil)))
theorem ir37_eq : mapS (cS 40 cc37) ((defBody (clsFn (top 8) 14))) = ir37 := by kernel_rfl

/-! ### specs of k14 -/
def objN (n : Nat) (rs : List Mono) : D := .obj 1 [.int (n : Nat), rowsD rs]
def natL (ts : List Nat) : D := ilst (ts.map fun t : Nat => ((t : Nat) : Int))
/-- n variables, powers up to 60, coefficients under 2^B, gathered -/
def gq (n B : Nat) (rs : List Mono) : Prop := n ≤ 64 ∧ OkR n 61 rs ∧ Cb B rs ∧ Can rs ∧ rs.length ≤ 4096
def heldB (rs : List Mono) (j : Nat) : Bool := rs.any fun r => decide (0 < r.1.getD j 0)
/-- one variable's least number, and what it leaves -/
def stepR (rs : List Mono) (j t : Nat) (out : List Mono) : Prop :=
  (heldB rs j = false ∧ t = 0 ∧ out = rs) ∨ (heldB rs j = true ∧ t ≤ 60 ∧ out ≠ [] ∧ gatR 61 (rs.map (frow j (t : Nat))) out ∧ ∀ s : Nat, s < t → gatR 61 (rs.map (frow j (s : Nat))) [])
/-- the least numbers of the first variables, and what they leave -/
inductive PointR (rs : List Mono) : List Nat → List Mono → Prop
  | nil : PointR rs [] rs
  | snoc {ts : List Nat} {left out : List Mono} {t : Nat} : PointR rs ts left → stepR left ts.length t out → PointR rs (ts ++ [t]) out
def spNo : VSp := ⟨Empty, fun _ => [], fun _ => False, fun _ _ _ => False, fun _ _ => False⟩
def spPow : VSp := .det (α := Int × Nat × Nat) (fun x => [.int x.1, .int x.2.1]) (fun x => bnd x.2.2 x.1 ∧ x.2.2 * x.2.1 ≤ 400000 ∧ x.2.1 ≤ 1000) false fun x => .int (x.1 ^ x.2.1)
def sp3 : VSp := .det (α := Nat × List Mono × List Mono) (fun x => [objN x.1 x.2.1, objN x.1 x.2.2]) (fun _ => True) false fun _ => .non
def sp4 : VSp := ⟨Nat × Int, fun x => [.int x.1, .int x.2], fun x => x.1 ≤ 64, fun x o d => o = false ∧ ∃ out, gatR 61 [(zeroP x.1, x.2)] out ∧ d = objN x.1 out, fun _ _ => False⟩
def sp5 : VSp := ⟨Nat × Nat, fun x => [.int x.1, .int x.2], fun x => x.1 ≤ 64 ∧ x.2 < x.1, fun x o d => o = false ∧ ∃ out, gatR 61 [(unitP x.1 x.2, 1)] out ∧ d = objN x.1 out, fun _ _ => False⟩
def sp6 : VSp := ⟨Nat × List Mono × Nat × Nat, fun x => [objN x.1 x.2.1, .int x.2.2.1], fun x => gq x.1 x.2.2.2 x.2.1 ∧ x.2.1 ≠ [] ∧ x.2.2.1 < x.1 ∧ x.2.2.2 ≤ 100000, fun x o d => o = false ∧ ∃ t out, stepR x.2.1 x.2.2.1 t out ∧ d = .tup [.int (t : Nat), objN x.1 out], fun _ _ => False⟩
def sp7 : VSp := ⟨Nat × List Mono × Nat, fun x => [objN x.1 x.2.1], fun x => gq x.1 x.2.2 x.2.1 ∧ x.2.2 ≤ 5000, fun x o d => (x.2.1 = [] ∧ o = false ∧ d = .non) ∨ (x.2.1 ≠ [] ∧ o = true ∧ ∃ ts left, ts.length = x.1 ∧ PointR x.2.1 ts left ∧ d = natL ts), fun _ _ => False⟩
def sp16 : VSp := ⟨Nat × List Mono × List Mono, fun x => [rowsD x.2.1, rowsD x.2.2], fun x => Rn x.1 x.2.1 ∧ Rn x.1 x.2.2 ∧ Cb 100000 x.2.1 ∧ Cb 100000 x.2.2 ∧ x.2.1.length * x.2.2.length < 1000000 ∧ OkR x.1 61 (prodR x.2.1 x.2.2) ∧ x.1 ≤ 64, fun x o d => o = true ∧ ∃ out, gatR 61 (prodR x.2.1 x.2.2) out ∧ d = rowsD out, fun _ _ => False⟩
def sp17 : VSp := ⟨Nat × Nat × Int, fun x => [.int x.1, .int x.2.1, .int x.2.2], fun x => x.1 ≤ 64 ∧ x.2.1 < x.1, fun x o d => o = true ∧ ∃ out, gatR 61 [(unitP x.1 x.2.1, 1), (zeroP x.1, x.2.2)] out ∧ d = rowsD out, fun _ _ => False⟩
def sp18 : VSp := .det (α := Nat × List Mono × List Nat) (fun x => [rowsD x.2.1, natL x.2.2]) (fun x => gq x.1 5000 x.2.1 ∧ x.2.2.length = x.1 ∧ ∀ t ∈ x.2.2, t ≤ 60) false fun x => .int (valP x.2.1 (x.2.2.map fun t : Nat => ((t : Nat) : Int)))
def sp22 : VSp := .det (α := Nat × List Mono) (fun x => [objN x.1 x.2, .int x.1, rowsD x.2]) (fun x => Rn x.1 x.2 ∧ x.2.length * (x.1 + 3) ≤ 90000 ∧ x.1 ≤ 64) false fun _ => .bl true
def sp23 : VSp := ⟨Nat × List Mono × Nat × Nat × Nat, fun x => [rowsD x.2.1, .int x.2.2.1, .int x.2.2.2.1], fun x => gq x.1 x.2.2.2.2 x.2.1 ∧ x.2.2.1 < x.1 ∧ x.2.2.2.1 ≤ 61 ∧ x.2.2.2.2 ≤ 100000, fun x o d => o = true ∧ ∃ out, gatR 61 (x.2.1.map (frow x.2.2.1 (x.2.2.2.1 : Nat))) out ∧ d = rowsD out, fun _ _ => False⟩
def sp24 : VSp := ⟨Nat × Nat × Int, fun x => [.tok, .int x.1, .int x.2.1, .int x.2.2], fun x => x.1 ≤ 64 ∧ x.2.1 ≤ 60 ∧ (x.2.2 = 0 ∨ x.2.2 = 1 ∨ x.2.2 = 2), fun x o d => o = true ∧ ∃ rs, rs.length ≤ 6 ∧ OkR x.1 61 rs ∧ Dg x.1 (3 * x.2.1) rs ∧ Cb 204 rs ∧ d = rowsD rs, fun _ _ => False⟩
def sp25 : VSp := ⟨Nat, fun n => [.tok, .int n], fun n => 1 ≤ n ∧ n ≤ 64, fun n o d => o = true ∧ ∃ rs, rs.length ≤ 512 ∧ Dg n 9 rs ∧ Cb 270 rs ∧ d = rowsD rs, fun _ _ => False⟩
def sp26 : VSp := ⟨Nat, fun n => [.tok, .int n], fun n => 1 ≤ n ∧ n ≤ 64, fun n o d => o = true ∧ ∃ rs, rs.length ≤ 61 ∧ OkR n 61 rs ∧ Cb 330 rs ∧ d = rowsD rs, fun _ _ => False⟩
def sp27 : VSp := ⟨Nat × List Mono × Nat, fun x => [rowsD x.2.1, .int x.1], fun x => gq x.1 x.2.2 x.2.1 ∧ x.2.2 ≤ 5000 ∧ x.2.1 ≠ [], fun x o d => o = true ∧ ∃ ts left, ts.length = x.1 ∧ PointR x.2.1 ts left ∧ d = natL ts, fun _ _ => False⟩
def okI (n : Nat) (rs : List Mono) : Prop := OkR n 61 rs ∧ Cb 500 rs ∧ rs.length ≤ 3072 ∧ rs.length * (n + 3) ≤ 70000
def sp28 : VSp := ⟨Nat × Int, fun x => [.tok, .int x.1, .int x.2], fun x => x.1 ≤ 64 ∧ 0 ≤ x.2 ∧ x.2 ≤ 6, fun x o d => o = true ∧ ∃ rs, okI x.1 rs ∧ d = rowsD rs, fun _ _ => False⟩
def sp29 : VSp := .det (α := Nat × List Mono) (fun x => [objN x.1 x.2, .int x.1, rowsD x.2]) (fun x => gq x.1 520 x.2 ∧ x.2 ≠ [] ∧ x.2.length * (x.1 + 3) ≤ 70000) false fun _ => .bl true
def sp30 : VSp := .det (α := Nat × Nat × Nat) (fun x => [.int x.1, .int x.2.1, .int x.2.2]) (fun x => x.1 ≤ 64 ∧ x.2.1 < x.1 ∧ x.2.2 ≤ 60) false fun _ => .bl true
def sp32 : VSp := ⟨Nat × List Mono, fun x => [.int x.1, rowsD x.2], fun x => x.2.length < lim ∧ OkR x.1 61 x.2, fun x o d => o = false ∧ ∃ out, gatR 61 x.2 out ∧ d = objN x.1 out, fun _ _ => False⟩
def sp33 : VSp := .det (α := Nat × List Mono) (fun x => [objN x.1 x.2]) (fun x => x.2.length ≤ 1000000) false fun x => .int (x.2.length : Nat)
def sp34 : VSp := ⟨Nat × List Mono × List Mono, fun x => [objN x.1 x.2.1, objN x.1 x.2.2], fun x => x.1 ≤ 64 ∧ OkR x.1 61 x.2.1 ∧ OkR x.1 61 x.2.2 ∧ x.2.1.length ≤ 4096 ∧ x.2.2.length ≤ 4096, fun x o d => o = false ∧ ∃ out, gatR 61 (x.2.1 ++ negR x.2.2) out ∧ d = objN x.1 out, fun _ _ => False⟩
def sp35 : VSp := ⟨Nat × List Mono × List Mono, fun x => [objN x.1 x.2.1, objN x.1 x.2.2], fun x => Rn x.1 x.2.1 ∧ Rn x.1 x.2.2 ∧ Cb 100000 x.2.1 ∧ Cb 100000 x.2.2 ∧ x.2.1.length * x.2.2.length < 1000000 ∧ OkR x.1 61 (prodR x.2.1 x.2.2) ∧ x.1 ≤ 64, fun x o d => o = false ∧ ∃ out, gatR 61 (prodR x.2.1 x.2.2) out ∧ d = objN x.1 out, fun _ _ => False⟩
def sp36 : VSp := .det (α := List Mono × Nat × Nat) (fun x => [objN x.2.1 x.1, .int x.2.2]) (fun x => Rn x.2.1 x.1 ∧ x.1.length ≤ 4096 ∧ x.2.2 < x.2.1) false fun x => .bl (heldB x.1 x.2.2)
def sp37 : VSp := ⟨Nat × List Mono × Nat × Nat × Nat, fun x => [objN x.1 x.2.1, .int x.2.2.1, .int x.2.2.2.1], fun x => gq x.1 x.2.2.2.2 x.2.1 ∧ x.2.2.1 < x.1 ∧ x.2.2.2.1 ≤ 61 ∧ x.2.2.2.2 ≤ 100000, fun x o d => o = false ∧ ∃ out, gatR 61 (x.2.1.map (frow x.2.2.1 (x.2.2.2.1 : Nat))) out ∧ d = objN x.1 out, fun _ _ => False⟩
def Γ : Nat → VSp := fun n => [spNo, spPow, spGathL, sp3, sp4, sp5, sp6, sp7, spNo, spNo, vTake, spPick, spShuf, spWorth, spNat, spGathL, sp16, sp17, sp18, spPow, spKind, spSame, sp22, sp23, sp24, sp25, sp26, sp27, sp28, sp29, sp30, spNo, sp32, sp33, sp34, sp35, sp36, sp37].getD n spNo
abbrev VAL (k : Nat) (ir : VSs) (N : List Str) : Prop := ∀ x : (Γ k).α, (Γ k).pre x → wSs Γ ir (startV N ((Γ k).arg x)) { nx := fun _ => (Γ k).post x false .non, rt := (Γ k).post x } (fun e _ => (Γ k).exc x e)
abbrev VALI (k c : Nat) (ir : List (Str × VE)) (N : List Str) : Prop := ∀ x : (Γ k).α, (Γ k).pre x → wIn Γ (ir.map (·.2)) ((startV N (.non :: (Γ k).arg x)).set 0 .un) [] fun fs => (Γ k).post x false (.obj c fs)
theorem obj32 : ∀ x o d, (Γ 32).post x o d → o = false ∧ ∃ fs, d = .obj 1 fs := by
  rintro x o d ⟨rfl, out, _, rfl⟩
  exact ⟨rfl, _, rfl⟩
theorem val0 : VAL 0 ir0 N0 := fun x h => h.elim

/-- a function is a polynomial of degree below d -/
def isP : Nat → (Int → Int) → Prop
  | 0, f => ∀ t, f t = 0
  | d + 1, f => ∃ (c : Int) (g : Int → Int), isP d g ∧ ∀ t, f t = c + t * g t
theorem isP_congr : ∀ {d : Nat} {f g : Int → Int}, isP d f → (∀ t, f t = g t) → isP d g
  | 0, f, g, h, e => fun t => by rw [← e t]; exact h t
  | d + 1, f, g, ⟨c, k, hk, q⟩, e => ⟨c, k, hk, fun t => by rw [← e t]; exact q t⟩
theorem isP_up : ∀ {d : Nat} {f : Int → Int}, isP d f → isP (d + 1) f
  | 0, f, h => ⟨0, fun _ => 0, fun _ => rfl, fun t => by rw [h t, Int.mul_zero]; rfl⟩
  | d + 1, f, ⟨c, k, hk, q⟩ => ⟨c, k, isP_up hk, q⟩
theorem isP_le {a b : Nat} {f : Int → Int} (h : isP a f) (l : a ≤ b) : isP b f := by
  obtain ⟨k, rfl⟩ := Nat.exists_eq_add_of_le l
  clear l
  induction k with
  | zero => exact h
  | succ k ih => exact isP_up ih
theorem isP_add : ∀ {d : Nat} {f g : Int → Int}, isP d f → isP d g → isP d fun t => f t + g t
  | 0, f, g, h, k => fun t => by show f t + g t = 0; rw [h t, k t]; rfl
  | d + 1, f, g, ⟨c, u, hu, q⟩, ⟨c', u', hu', q'⟩ => ⟨c + c', fun t => u t + u' t, isP_add hu hu', fun t => by show f t + g t = c + c' + t * (u t + u' t); rw [q t, q' t]; grind⟩
theorem isP_const (d : Nat) (c : Int) : isP (d + 1) fun _ => c := isP_le (a := 1) ⟨c, fun _ => 0, fun _ => rfl, fun t => by rw [Int.mul_zero, Int.add_zero]⟩ (by omega)
theorem isP_pow (c : Int) : ∀ k : Nat, isP (k + 1) fun t => t ^ k * c
  | 0 => isP_congr (isP_const 0 c) fun t => by rw [Int.pow_zero, Int.one_mul]
  | k + 1 => ⟨0, fun t => t ^ k * c, isP_pow c k, fun t => by show t ^ (k + 1) * c = 0 + t * (t ^ k * c); rw [Int.pow_succ]; grind⟩
theorem isP_shift : ∀ {d : Nat} {f : Int → Int}, isP d f → isP d fun t => f (t + 1)
  | 0, f, h => fun t => h (t + 1)
  | d + 1, f, ⟨c, u, hu, q⟩ => by
    have hs := isP_shift hu
    exact isP_congr (isP_add (d := d + 1) (isP_up hs) ⟨c, fun t => u (t + 1), hs, fun t => rfl⟩) fun t => by
      show u (t + 1) + (c + t * u (t + 1)) = f (t + 1)
      rw [q (t + 1)]; grind
/-- a polynomial of degree below d with the roots 0, 1, .., d - 1 is 0 everywhere -/
theorem isP_roots : ∀ {d : Nat} {f : Int → Int}, isP d f → (∀ k : Nat, k < d → f (k : Nat) = 0) → ∀ t, f t = 0
  | 0, f, h, _ => h
  | d + 1, f, ⟨c, u, hu, q⟩, z => by
    have c0 : c = 0 := by
      have := z 0 (by omega)
      rw [q] at this
      simpa using this
    subst c0
    have hs := isP_roots (isP_shift hu) fun k hk => by
      have := z (k + 1) (by omega)
      rw [q, Int.zero_add] at this
      have e : (((k + 1 : Nat) : Int)) = (k : Int) + 1 := by omega
      rw [e] at this
      rcases Int.mul_eq_zero.mp this with h | h
      · omega
      · exact h
    intro t
    rw [q t, Int.zero_add]
    have := hs (t - 1)
    have this : u (t - 1 + 1) = 0 := this
    rw [show t - 1 + 1 = t by omega] at this
    rw [this, Int.mul_zero]
theorem isP_val {n j : Nat} {x : List Int} (hx : x.length = n) (hj : j < n) : ∀ {rs : List Mono}, OkR n 61 rs → isP 61 fun t => valP rs (x.set j t)
  | [], _ => isP_le (a := 0) (fun t => rfl) (by omega)
  | r :: rs, h => by
    have ih := isP_val hx hj (rs := rs) fun r' hr => h r' (List.mem_cons_of_mem _ hr)
    obtain ⟨h1, h2⟩ := h r List.mem_cons_self
    have hb := h2 _ (VL.getD_mem (p := r.1) (j := j) (by rw [h1]; exact hj))
    have hp := isP_le (isP_pow (ev x (r.1.set j 0) * r.2) (r.1.getD j 0).toNat) (show (r.1.getD j 0).toNat + 1 ≤ 61 by omega)
    refine isP_congr (isP_add hp ih) fun t => ?_
    show _ = r.2 * ev (x.set j t) r.1 + valP rs (x.set j t)
    rw [ev_set j x r.1 t (by rw [hx, h1]) (by rw [h1]; exact hj)]
    grind
/-- not all of 0, 1, .., 60 empty a polynomial with powers up to 60 -/
theorem not_emptied {n j : Nat} {rs : List Mono} (hc : Can rs) (ho : OkR n 61 rs) (hj : j < n) (h : ∀ t : Nat, t ≤ 60 → ∀ x : List Int, x.length = n → valP rs (x.set j (t : Nat)) = 0) : rs = [] := by
  have rn : Rn n rs := fun r hr => ⟨(ho r hr).1, fun k hk => ((ho r hr).2 k hk).1⟩
  have z : ∀ x : List Int, x.length = n → valP rs x = 0 := fun x hx => by
    have := isP_roots (isP_val hx hj ho) (fun k hk => h k (by omega) x hx) (x.getD j 0)
    have this : valP rs (x.set j (x.getD j 0)) = 0 := this
    rw [show x.set j (x.getD j 0) = x by
      refine getD_ext (by rw [List.length_set]) fun i hi => ?_
      rw [getD_set (by rw [hx]; exact hj)]
      split
      · rename_i e; rw [e]
      · rfl] at this
    exact this
  exact Can.ident (b := []) hc ⟨List.Pairwise.nil, fun p c => by simp [VL.coef], Nat.le_refl _⟩ rn (fun _ h => nomatch h) fun x hx => by rw [z x hx]; rfl

theorem gq.n64 {n B : Nat} {rs : List Mono} (h : gq n B rs) : n ≤ 64 := h.1
theorem gq.ok {n B : Nat} {rs : List Mono} (h : gq n B rs) : OkR n 61 rs := h.2.1
theorem ok_rn {n : Nat} {rs : List Mono} (h : OkR n 61 rs) : Rn n rs := fun r hr => ⟨(h r hr).1, fun k hk => ((h r hr).2 k hk).1⟩
theorem gq.rn {n B : Nat} {rs : List Mono} (h : gq n B rs) : Rn n rs := ok_rn h.2.1
theorem gq.mono {n B B' : Nat} {rs : List Mono} (h : gq n B rs) (l : B ≤ B') : gq n B' rs := ⟨h.1, h.2.1, h.2.2.1.mono l, h.2.2.2.1, h.2.2.2.2⟩
theorem val2 : VAL 2 ir2 N2 := val_gathL
theorem val15 : VAL 15 ir15 N15 := val_lawGL
theorem val11 : VAL 11 ir11 N11 := val_pick (Γ := Γ) (n := 10) rfl
theorem val12 : VAL 12 ir12 N12 := val_shuf (Γ := Γ) (n := 10) rfl
theorem val13 : VAL 13 ir13 N13 := val_worth (Γ := Γ) (n := 10) rfl
theorem val14 : VAL 14 ir14 N14 := val_nat (Γ := Γ) (n := 10) rfl
theorem val20 : VAL 20 ir20 N20 := val_kind
theorem val21 : VAL 21 ir21 N21 := val_same (Γ := Γ) (n := 20) rfl
theorem worth_run {w : Int} {K : Bool → D → Prop} {E : Exc → Prop} (hw : w = 0 ∨ w = 1 ∨ w = 2) (h : ∀ i : Int, bnd 204 i → K false (.int i)) : (Γ 13).run [.tok, .int w] K E := worth_runZ (Γ := Γ) (m := 13) rfl hw h
theorem val1 : VAL 1 ir1 N1 := by
  show ∀ x : Int × Nat × Nat, (bnd x.2.2 x.1 ∧ x.2.2 * x.2.1 ≤ 400000 ∧ x.2.1 ≤ 1000) → _
  rintro ⟨b, n, A⟩ ⟨hb, hA, hn⟩
  have hb : bnd A b := hb
  have hA : A * n ≤ 400000 := hA
  have hn : n ≤ 1000 := hn
  show wSs Γ ir1 [.val (.int b), .val (.int n), .un, .un, .un] _ _
  conv => whnf
  refine ⟨fun m ρ => ∃ (left : Nat) (ans sq : Int), m = left ∧ ρ = [.val (.int b), .val (.int n), .val (.int ans), .val (.int sq), .val (.int left)] ∧ ((left = 0 ∧ ans = b ^ n) ∨ (0 < left ∧ ∃ a e : Nat, ans = b ^ a ∧ sq = b ^ e ∧ a + e * left = n)), ⟨n, n, 1, b, rfl, rfl, ?_⟩, ?_⟩
  · by_cases h : n = 0
    · subst h; exact .inl ⟨rfl, by simp⟩
    · exact .inr ⟨by omega, 0, 1, by simp, by rw [Int.pow_succ, Int.pow_zero, Int.one_mul], by omega⟩
  · rintro m ρ1 ⟨left, ans, sq, rfl, rfl, h⟩
    conv => whnf
    refine ⟨fun q => ?_, fun q => ?_⟩
    · have q : (0 : Int) < m := of_decide_eq_true q
      obtain ⟨h0, a, e, rfl, rfl, hs⟩ : 0 < m ∧ ∃ a e : Nat, ans = b ^ a ∧ sq = b ^ e ∧ a + e * m = n := by
        rcases h with ⟨h, _⟩ | h
        · omega
        · exact h
      have hem : e ≤ e * m := Nat.le_mul_of_pos_right e h0
      have key : ∀ c : Nat, c ≤ n → bnd (A * n + 1) (b ^ c) := fun c hc => bnd_mono (bnd_pow hb c) (by have := Nat.mul_le_mul_left A hc; omega)
      conv => whnf
      have step2 : ∀ a' : Nat, a' + e * (2 * (m / 2)) = n → wSs Γ (.cons (.asg (.nm 4) (.bin .FloorDiv (.var 4) (.cst (.int 2)))) (.cons (.ifS (.tv (.cmp .Gt (.var 4) (.cst (.int 0)))) (.cons (.asg (.nm 3) (.bin .Mult (.var 3) (.var 3))) .nil) .nil) .nil)) [.val (.int b), .val (.int n), .val (.int (b ^ a')), .val (.int (b ^ e)), .val (.int m)] { nx := fun ρ3 => ∃ m', m' < m ∧ ∃ (left : Nat) (ans sq : Int), m' = left ∧ ρ3 = [.val (.int b), .val (.int n), .val (.int ans), .val (.int sq), .val (.int left)] ∧ ((left = 0 ∧ ans = b ^ n) ∨ (0 < left ∧ ∃ a e : Nat, ans = b ^ a ∧ sq = b ^ e ∧ a + e * left = n)), rt := fun o d => o = false ∧ d = .int (b ^ n), bk := fun ρ => (VSp.det (α := Int × Nat × Nat) (fun x => [.int x.1, .int x.2.1]) (fun x => bnd x.2.2 x.1 ∧ x.2.2 * x.2.1 ≤ 400000 ∧ x.2.1 ≤ 1000) false fun x => .int (x.1 ^ x.2.1)).post (b, n, A) false .non, ct := fun ρ3 => True } (fun _ _ => False) := by
        intro a' ha'
        have ed : (m : Int) / 2 = ((m / 2 : Nat) : Int) := by omega
        conv => whnf
        refine ⟨⟨by decide, by decide +kernel⟩, ?_⟩
        conv => whnf
        refine ⟨fun q2 => ?_, fun q2 => ?_⟩
        · have q2 : (0 : Int) < (m : Int) / 2 := of_decide_eq_true q2
          conv => whnf
          have he2 : e + e ≤ n := by
            have : 1 ≤ m / 2 := by omega
            have : e * 2 ≤ e * (2 * (m / 2)) := Nat.mul_le_mul_left e (by omega)
            omega
          refine ⟨mulok (key e (by omega)) (key e (by omega)) (by omega), ?_⟩
          conv => whnf
          refine ⟨m / 2, by omega, m / 2, b ^ a', b ^ e * b ^ e, rfl, by rw [ed]; rfl, .inr ⟨by omega, a', e + e, rfl, by rw [Int.pow_add], ?_⟩⟩
          rw [← ha', Nat.add_mul, ← Nat.mul_add]; congr 2; omega
        · have q2 : ¬ (0 : Int) < (m : Int) / 2 := of_decide_eq_false q2
          conv => whnf
          have hz : m / 2 = 0 := by omega
          refine ⟨m / 2, by omega, m / 2, b ^ a', b ^ e, rfl, by rw [ed]; rfl, .inl ⟨hz, ?_⟩⟩
          rw [hz] at ha'
          congr 1
      refine ⟨fun q => ?_, fun q => ?_⟩
      · have q : Builtin.bitAnd (m : Int) 1 = 1 := of_decide_eq_true q
        rw [band1] at q
        conv => whnf
        refine ⟨mulok (key a (by omega)) (key e (by omega)) (by omega), ?_⟩
        have e1 : b ^ a * b ^ e = b ^ (a + e) := by rw [Int.pow_add]
        have := step2 (a + e) (by
          have : m = 2 * (m / 2) + 1 := by omega
          rw [← hs]
          conv => rhs; rw [this, Nat.mul_add, Nat.mul_one]
          omega)
        rw [← e1] at this
        exact this
      · have q : ¬ Builtin.bitAnd (m : Int) 1 = 1 := of_decide_eq_false q
        rw [band1] at q
        have := step2 a (by
          have : m = 2 * (m / 2) := by omega
          rw [← this]; exact hs)
        exact this
    · have q : ¬ (0 : Int) < m := of_decide_eq_false q
      conv => whnf
      refine ⟨rfl, ?_⟩
      rcases h with ⟨_, h⟩ | ⟨h, _⟩
      · show D.int _ = D.int _
        rw [h]
      · omega
theorem val19 : VAL 19 ir19 N19 := by
  show ∀ x : Int × Nat × Nat, (bnd x.2.2 x.1 ∧ x.2.2 * x.2.1 ≤ 400000 ∧ x.2.1 ≤ 1000) → _
  rintro ⟨b, n, A⟩ ⟨hb, hA, hn⟩
  have hb : bnd A b := hb
  have hA : A * n ≤ 400000 := hA
  have hn : n ≤ 1000 := hn
  show wSs Γ ir19 [.val (.int b), .val (.int n), .un, .un] _ _
  conv => whnf
  refine ⟨⟨by omega, by omega⟩, ?_⟩
  rw [rngD_ints]
  refine forL_gen D.int (rgI 0 (n : Nat)) (fun done rest ρ => ∃ s3, ρ = [.val (.int b), .val (.int n), .val (.int (b ^ done.length)), s3]) ?_ ?_ ⟨.un, by rw [List.length_nil, Int.pow_zero]; rfl⟩
  · rintro ρ ⟨s3, rfl⟩
    conv => whnf
    exact ⟨rfl, by show D.int _ = D.int (b ^ n); rw [rgI_len]; simp⟩
  · rintro done m rest ρ nx bk he ⟨s3, rfl⟩ hnx -
    have hl := congrArg List.length he
    rw [rgI_len, List.length_append, List.length_cons] at hl
    conv => whnf
    have hA2 : A * done.length ≤ A * n := Nat.mul_le_mul_left A (by omega)
    have hA3 : A * 1 ≤ A * n := Nat.mul_le_mul_left A (by omega)
    refine ⟨mulok (bnd_pow hb done.length) hb (by omega), ?_⟩
    conv => whnf
    exact hnx _ ⟨.val (.int m), by rw [List.length_append, List.length_singleton, Int.pow_succ]; rfl⟩
theorem call1 {b : Int} {n A : Nat} {K : Bool → D → Prop} {E : Exc → Prop} {d : D} (e : d = .int (n : Nat)) (h1 : bnd A b) (h2 : A * n ≤ 400000) (h3 : n ≤ 1000) (h : K false (.int (b ^ n))) : (Γ 1).run [.int b, d] K E := by
  subst e
  exact run_det (α := Int × Nat × Nat) (b, n, A) rfl ⟨h1, h2, h3⟩ h
theorem val33 : VAL 33 ir33 N33 := by
  rintro ⟨n, rs⟩ _
  show wSs Γ ir33 [.val (objN n rs)] _ _
  conv => whnf
  refine ⟨_, _, rfl, rfl, ?_⟩
  exact ⟨rfl, by show D.int ((rs.map rowD).length : Nat) = _; rw [List.length_map]⟩
theorem len_run {n : Nat} {rs : List Mono} {K : Bool → D → Prop} {E : Exc → Prop} (hl : rs.length ≤ 1000000) (h : K false (.int (rs.length : Nat))) : (Γ 33).run [objN n rs] K E := run_det (α := Nat × List Mono) (n, rs) rfl hl h
theorem val32 : VALI 32 1 ir32 N32 := by
  show ∀ x : Nat × List Mono, (x.2.length < lim ∧ OkR x.1 61 x.2) → _
  rintro ⟨n, rs⟩ ⟨hl, ho⟩
  show wIn Γ [.var 1, .call 2 (.cons (.var 2) .nil)] [.un, .val (.int n), .val (rowsD rs)] [] _
  conv => whnf
  refine gath_runL (n := 2) rfl hl ho fun out h1 => ?_
  conv => whnf
  exact ⟨rfl, out, h1, rfl⟩
theorem mk_run {n : Nat} {d : D} {rs : List Mono} {K : Bool → D → Prop} {E : Exc → Prop} (e : d = rowsD rs) (hl : rs.length < 1000000) (ho : OkR n 61 rs) (h : ∀ out, gatR 61 rs out → K false (objN n out)) : (Γ 32).run [.int n, d] K E := by
  subst e
  exact run_of (s := Γ 32) (n, rs) rfl ⟨hl, ho⟩ (fun o e ⟨e1, out, h1, h2⟩ => by subst e1 h2; exact h out h1) fun e z => z.elim
theorem val22 : VAL 22 ir22 N22 := by
  show ∀ x : Nat × List Mono, (Rn x.1 x.2 ∧ x.2.length * (x.1 + 3) ≤ 90000 ∧ x.1 ≤ 64) → _
  rintro ⟨n, rs⟩ ⟨ho, hl, hn⟩
  have hl : rs.length * (n + 3) ≤ 90000 := hl
  have hl3 : rs.length * 3 ≤ rs.length * (n + 3) := Nat.mul_le_mul_left _ (by omega)
  have hn : n ≤ 64 := hn
  have hz := sz_rows rs fun r hr => (ho r hr).1
  show wSs Γ ir22 [.val (objN n rs), .val (.int n), .val (rowsD rs)] _ _
  conv => whnf
  refine ⟨rfl, rs.map rowD, rfl, ?_⟩
  conv => whnf
  refine same_run (Γ := Γ) (m := 21) rfl rfl (plain_rows rs) ?_ ?_
  · show szs (rs.map rowD) + 1 ≤ 100000
    have hz : szs (rs.map rowD) ≤ rs.length * (n + 3) := hz
    omega
  conv => whnf
  refine ⟨true, rfl, fun _ => ?_, fun z => by cases z⟩
  conv => whnf
  refine ⟨_, _, rfl, rfl, ?_⟩
  conv => whnf
  refine same_run (Γ := Γ) (m := 21) rfl rfl rfl (by show (1 : Nat) ≤ 100000; decide) ?_
  conv => whnf
  refine ⟨true, rfl, fun _ => ?_, fun z => by cases z⟩
  conv => whnf
  refine ⟨rfl, ?_⟩
  refine len_run (by omega) ?_
  conv => whnf
  refine ⟨_, rfl, by omega, by omega, ?_⟩
  conv => whnf
  exact ⟨rfl, by show D.bl (decide ((rs.length : Int) = ((rs.map rowD).length : Nat))) = D.bl true; rw [List.length_map, decide_eq_true rfl]⟩
theorem call22 {n : Nat} {rs rs' : List Mono} {K : Bool → D → Prop} {E : Exc → Prop} (e : rs' = rs) (h1 : Rn n rs) (h2 : rs.length * (n + 3) ≤ 90000) (h3 : n ≤ 64) (h : K false (.bl true)) : (Γ 22).run [objN n rs, .int n, rowsD rs'] K E := by
  subst e
  exact run_det (α := Nat × List Mono) (n, rs') rfl ⟨h1, h2, h3⟩ h
theorem val3 : VAL 3 ir3 N3 := by
  show ∀ x : Nat × List Mono × List Mono, True → _
  rintro ⟨n, a, b⟩ -
  show wSs Γ ir3 [.val (objN n a), .val (objN n b)] _ _
  conv => whnf
  refine ⟨_, _, rfl, rfl, ?_⟩
  conv => whnf
  refine ⟨_, _, rfl, rfl, ?_⟩
  conv => whnf
  refine ⟨fun q => ?_, fun _ => ⟨rfl, rfl⟩⟩
  exfalso
  have q : (!decide ((n : Int) = (n : Nat))) = true := q
  rw [decide_eq_true rfl] at q
  cases q
theorem run3 {n : Nat} {a b : List Mono} {K : Bool → D → Prop} {E : Exc → Prop} (h : K false .non) : (Γ 3).run [objN n a, objN n b] K E := run_det (α := Nat × List Mono × List Mono) (n, a, b) rfl trivial h
theorem val36 : VAL 36 ir36 N36 := by
  show ∀ x : List Mono × Nat × Nat, (Rn x.2.1 x.1 ∧ x.1.length ≤ 4096 ∧ x.2.2 < x.2.1) → _
  rintro ⟨rs, n, j⟩ ⟨h1, h2, h3⟩
  have h1 : Rn n rs := h1
  have h2 : rs.length ≤ 4096 := h2
  have h3 : j < n := h3
  show wSs Γ ir36 [.val (objN n rs), .val (.int j), .un, .un] _ _
  conv => whnf
  refine ⟨_, _, rfl, rfl, ?_⟩
  conv => whnf
  refine compL_gen rowD (fun _ => true) (fun r => .bl (decide (0 < r.1.getD j 0))) (ρ := [.val (objN n rs), .val (.int j), .un, .un]) (fun r => [.val (objN n rs), .val (.int j), .val (tupD r.1), .val (.int r.2)]) (fun _ => rfl) _ _ (by show 0 + rs.length ≤ 1000000; omega) (fun r hr Ka Ks ha _ => ?_) ?_
  · conv => whnf
    refine ⟨fun _ => ?_, (fun z => by cases z)⟩
    conv => whnf
    refine ⟨_, at_int (p := r.1) (by rw [(h1 r hr).1]; exact h3), ?_⟩
    exact ha rfl
  · conv => whnf
    rw [List.filter_eq_self.mpr (fun _ _ => rfl)]
    refine ⟨_, boolsL (fun r : Mono => decide (0 < r.1.getD j 0)) rs, ?_⟩
    refine ⟨rfl, ?_⟩
    show D.bl _ = D.bl _
    rw [List.any_map]; rfl

theorem fr_ok {n j : Nat} {t : Int} {rs : List Mono} (h : OkR n 61 rs) : OkR n 61 (rs.map (frow j t)) := fun q hq => by
  obtain ⟨r, hr, rfl⟩ := List.mem_map.mp hq
  obtain ⟨h1, h2⟩ := h r hr
  refine ⟨by show (r.1.set j 0).length = n; rw [List.length_set]; exact h1, fun x hx => ?_⟩
  rcases List.mem_or_eq_of_mem_set hx with z | z
  · exact h2 x z
  · rw [z]; exact ⟨by omega, by omega⟩
theorem ok_at {n j : Nat} {rs : List Mono} (h : OkR n 61 rs) {r : Mono} (hr : r ∈ rs) (hj : j < n) : 0 ≤ r.1.getD j 0 ∧ r.1.getD j 0 ≤ 60 := by
  obtain ⟨h1, h2⟩ := h r hr
  have := h2 _ (VL.getD_mem (p := r.1) (j := j) (by rw [h1]; exact hj))
  omega
theorem nat_bnd {t : Nat} (h : t ≤ 61) : bnd 6 (t : Int) := bnd_nat (by show t < 64; omega)
theorem fr_cb {n j B t : Nat} {rs : List Mono} (h : OkR n 61 rs) (hc : Cb B rs) (hj : j < n) (ht : t ≤ 61) : Cb (B + 361) (rs.map (frow j (t : Nat))) := fun q hq => by
  obtain ⟨r, hr, rfl⟩ := List.mem_map.mp hq
  have := ok_at h hr hj
  exact bnd_mono (bnd_mul (hc r hr) (bnd_pow (nat_bnd ht) (r.1.getD j 0).toNat)) (by omega)
theorem fill_gq {n j B t : Nat} {rs out : List Mono} (h : gq n B rs) (hj : j < n) (ht : t ≤ 61) (ho : gatR 61 (rs.map (frow j (t : Nat))) out) : gq n (B + 400) out := by
  have hl := h.2.2.2.2
  refine ⟨h.1, ho.ok (fr_ok h.2.1), (gat_cb (k := 13) ho (fr_cb h.2.1 h.2.2.1 hj ht) (by rw [List.length_map]; show rs.length < 8192; omega)).mono (by omega), ho.can, ?_⟩
  have := ho.2.2
  rw [List.length_map] at this
  omega
theorem fill_val {n j : Nat} {t : Int} {rs out : List Mono} (h : Rn n rs) (hj : j < n) (ho : gatR 61 (rs.map (frow j t)) out) {x : List Int} (hx : x.length = n) : valP out x = valP rs (x.set j t) := by
  show lin (ev x) out = _
  rw [ho.lin]
  exact val_frow hj hx h
theorem emptied_lt {n j B m : Nat} {rs : List Mono} (h : gq n B rs) (h0 : rs ≠ []) (hj : j < n) (he : ∀ s : Nat, s ≤ m → gatR 61 (rs.map (frow j (s : Nat))) []) : m < 60 := by
  refine Nat.lt_of_not_le fun hm => h0 ?_
  refine not_emptied h.2.2.2.1 h.2.1 hj fun t ht x hx => ?_
  rw [← fill_val h.rn hj (he t (by omega)) hx]; rfl
theorem unheld {n j : Nat} {rs : List Mono} (h : Rn n rs) (hj : j < n) (hu : heldB rs j = false) : ∀ r ∈ rs, r.1.getD j 0 = 0 := fun r hr => by
  have := rn_at h hr hj
  have : ¬ (0 < r.1.getD j 0) := fun z => by
    have : heldB rs j = true := List.any_eq_true.mpr ⟨r, hr, decide_eq_true z⟩
    rw [hu] at this; cases this
  omega
theorem val_unheld {n j : Nat} {v : Int} {x : List Int} (hx : x.length = n) (hj : j < n) : ∀ {rs : List Mono}, Rn n rs → (∀ r ∈ rs, r.1.getD j 0 = 0) → valP rs (x.set j v) = valP rs x
  | [], _, _ => rfl
  | r :: rs, h, hu => by
    have ih := val_unheld hx hj (v := v) (rs := rs) (fun r' hr => h r' (List.mem_cons_of_mem _ hr)) fun r' hr => hu r' (List.mem_cons_of_mem _ hr)
    have h0 := hu r List.mem_cons_self
    have h1 := (h r List.mem_cons_self).1
    show r.2 * ev (x.set j v) r.1 + valP rs (x.set j v) = r.2 * ev x r.1 + valP rs x
    rw [ih, ev_set j x r.1 v (by rw [hx, h1]) (by rw [h1]; exact hj), h0]
    have e : r.1.set j 0 = r.1 := by
      refine getD_ext (by rw [List.length_set]) fun i hi => ?_
      rw [getD_set (by rw [h1]; exact hj)]
      split
      · rename_i e; rw [e, h0]
      · rfl
    rw [e]
    show r.2 * (v ^ 0 * ev x r.1) + _ = _
    rw [Int.pow_zero, Int.one_mul]
theorem stepR.gq {n j B t : Nat} {rs out : List Mono} (s : stepR rs j t out) (h : gq n B rs) (hj : j < n) : Law.gq n (B + 400) out := by
  rcases s with ⟨_, _, rfl⟩ | ⟨_, ht, _, ho, _⟩
  · exact h.mono (by omega)
  · exact fill_gq h hj (by omega) ho
theorem stepR.ne {j t : Nat} {rs out : List Mono} (s : stepR rs j t out) (h : rs ≠ []) : out ≠ [] := by
  rcases s with ⟨_, _, rfl⟩ | ⟨_, _, h0, _⟩
  · exact h
  · exact h0
theorem stepR.le {j t : Nat} {rs out : List Mono} (s : stepR rs j t out) : t ≤ 60 := by
  rcases s with ⟨_, rfl, _⟩ | ⟨_, h, _⟩
  · omega
  · exact h
theorem stepR.uniq {j t t' : Nat} {rs out out' : List Mono} (s : stepR rs j t out) (s' : stepR rs j t' out') : t = t' ∧ out = out' := by
  rcases s with ⟨a1, rfl, rfl⟩ | ⟨a1, a2, a3, a4, a5⟩
  · rcases s' with ⟨b1, rfl, rfl⟩ | ⟨b1, b2, b3, b4, b5⟩
    · exact ⟨rfl, rfl⟩
    · rw [a1] at b1; cases b1
  · rcases s' with ⟨b1, rfl, rfl⟩ | ⟨b1, b2, b3, b4, b5⟩
    · rw [a1] at b1; cases b1
    · have e : t = t' := by
        rcases Nat.lt_trichotomy t t' with z | z | z
        · exact absurd (a4.uniq (b5 t z) fun _ => rfl) a3
        · exact z
        · exact absurd (b4.uniq (a5 t' z) fun _ => rfl) b3
      subst e
      exact ⟨rfl, a4.uniq b4 fun _ => rfl⟩
theorem stepR.val {n j t : Nat} {rs out : List Mono} (s : stepR rs j t out) (h : Rn n rs) (hj : j < n) {x : List Int} (hx : x.length = n) : valP out x = valP rs (x.set j (t : Nat)) := by
  rcases s with ⟨a1, rfl, rfl⟩ | ⟨_, _, _, ho, _⟩
  · exact (val_unheld hx hj h (unheld h hj a1)).symm
  · exact fill_val h hj ho hx
theorem stepR.zero {n j t i : Nat} {rs out : List Mono} (s : stepR rs j t out) (h : Rn n rs) (hj : j < n) (hi : i = j ∨ ∀ r ∈ rs, r.1.getD i 0 = 0) : ∀ r ∈ out, r.1.getD i 0 = 0 := by
  rcases s with ⟨a1, rfl, rfl⟩ | ⟨_, _, _, ho, _⟩
  · rcases hi with rfl | hi
    · exact unheld h hj a1
    · exact hi
  · intro r hr
    have := gat_sub ho hr
    rw [List.map_map] at this
    obtain ⟨q, hq, e⟩ := List.mem_map.mp this
    have e : q.1.set j 0 = r.1 := e
    rw [← e, getD_set (by rw [(h q hq).1]; exact hj)]
    split
    · rfl
    · rename_i hne
      rcases hi with z | hi
      · exact absurd z hne
      · exact hi q hq
theorem PointR.uniq {rs : List Mono} {ts ts' : List Nat} {a b : List Mono} (h : PointR rs ts a) (h' : PointR rs ts' b) (l : ts.length = ts'.length) : ts = ts' ∧ a = b := by
  induction h generalizing ts' b with
  | nil =>
    cases h' with
    | nil => exact ⟨rfl, rfl⟩
    | snoc p s => rw [List.length_append] at l; simp at l
  | snoc p s ih =>
    cases h' with
    | nil => rw [List.length_append] at l; simp at l
    | snoc p' s' =>
      rw [List.length_append, List.length_append] at l
      have l : _ + 1 = _ + 1 := l
      have l2 := Nat.succ.inj l
      obtain ⟨e1, e2⟩ := ih p' l2
      subst e1 e2
      obtain ⟨e3, e4⟩ := s.uniq s'
      subst e3 e4
      exact ⟨rfl, rfl⟩
theorem PointR.gq {n B : Nat} {rs left : List Mono} {ts : List Nat} (p : PointR rs ts left) (h : gq n B rs) (h0 : rs ≠ []) (l : ts.length ≤ n) : Law.gq n (B + 400 * ts.length) left ∧ left ≠ [] ∧ ∀ t ∈ ts, t ≤ 60 := by
  induction p with
  | nil => exact ⟨h, h0, fun _ h => nomatch h⟩
  | snoc p s ih =>
    rw [List.length_append] at l
    have l : _ + 1 ≤ n := l
    obtain ⟨i1, i2, i3⟩ := ih (by omega)
    refine ⟨(s.gq i1 (by omega)).mono ?_, s.ne i2, fun t ht => ?_⟩
    · rw [List.length_append]; show _ ≤ B + 400 * (_ + 1); omega
    · rcases List.mem_append.mp ht with z | z
      · exact i3 t z
      · rw [List.mem_singleton] at z; rw [z]; exact s.le
theorem PointR.zero {n B : Nat} {rs left : List Mono} {ts : List Nat} (p : PointR rs ts left) (h : Law.gq n B rs) (h0 : rs ≠ []) (l : ts.length ≤ n) : ∀ i, i < ts.length → ∀ r ∈ left, r.1.getD i 0 = 0 := by
  induction p with
  | nil => exact fun i hi => absurd hi (by simp)
  | snoc p s ih =>
    intro i hi
    rw [List.length_append] at l hi
    have l : _ + 1 ≤ n := l
    have hi : i < _ + 1 := hi
    obtain ⟨g, -⟩ := p.gq h h0 (by omega)
    refine s.zero g.rn (by omega) ?_
    rcases Nat.lt_succ_iff_lt_or_eq.mp hi with z | z
    · exact .inr (ih (by omega) i z)
    · exact .inl z
def natI (ts : List Nat) : List Int := ts.map fun t : Nat => ((t : Nat) : Int)
theorem PointR.val {n B : Nat} {rs left : List Mono} {ts : List Nat} (p : PointR rs ts left) (h : Law.gq n B rs) (h0 : rs ≠ []) (l : ts.length ≤ n) : ∀ x : List Int, x.length = n → valP left x = valP rs (natI ts ++ x.drop ts.length) := by
  induction p with
  | nil => exact fun x _ => rfl
  | snoc p s ih =>
    intro x hx
    rw [List.length_append] at l
    have l : _ + 1 ≤ n := l
    obtain ⟨g, -⟩ := p.gq h h0 (by omega)
    rw [s.val g.rn (by omega) hx, ih (by omega) _ (by rw [List.length_set]; exact hx)]
    congr 1
    unfold natI
    rw [List.map_append, List.append_assoc, List.length_append]
    congr 1
    rw [List.drop_eq_getElem_cons (by rw [List.length_set]; omega), List.getElem_set_self, List.drop_set_of_lt (by omega)]; rfl
/-- at the least numbers of all variables the polynomial is not 0 -/
theorem PointR.ne0 {n B : Nat} {rs left : List Mono} {ts : List Nat} (p : PointR rs ts left) (h : Law.gq n B rs) (h0 : rs ≠ []) (l : ts.length = n) : valP rs (natI ts) ≠ 0 := by
  have hx : (List.replicate n (0 : Int)).length = n := List.length_replicate
  have e := p.val h h0 (by omega) (List.replicate n 0) hx
  rw [List.drop_of_length_le (by omega), List.append_nil] at e
  rw [← e]
  obtain ⟨g, g0, -⟩ := p.gq h h0 (by omega)
  have z := p.zero h h0 (by omega)
  have hz : ∀ r ∈ left, r.1 = zeroP n := fun r hr => by
    have hl := (g.2.1 r hr).1
    refine getD_ext (by rw [hl]; unfold zeroP; rw [List.length_replicate]) fun i hi => ?_
    rw [z i (by omega) r hr]
    unfold zeroP
    rw [List.getD_eq_getElem?_getD, List.getElem?_replicate, if_pos (by omega)]; rfl
  have hnd := g.2.2.2.1.nodup
  have hc : ∀ r ∈ left, r.2 ≠ 0 := fun r hr => ((g.2.2.2.1.2.1 r.1 r.2).mp hr).2
  match left, g0, hz, hnd, hc with
  | [r], _, hz, _, hc =>
    show r.2 * ev _ r.1 + 0 ≠ 0
    rw [hz r (by simp), ev_zero, Int.mul_one, Int.add_zero]
    exact hc r (by simp)
  | r :: q :: rest, _, hz, hnd, _ =>
    exfalso
    rw [List.map_cons, List.map_cons, List.nodup_cons] at hnd
    refine hnd.1 ?_
    rw [hz r (by simp), hz q (by simp)]
    simp

theorem val37 : VAL 37 ir37 N37 := by
  show ∀ x : Nat × List Mono × Nat × Nat × Nat, (gq x.1 x.2.2.2.2 x.2.1 ∧ x.2.2.1 < x.1 ∧ x.2.2.2.1 ≤ 61 ∧ x.2.2.2.2 ≤ 100000) → _
  rintro ⟨n, rs, j, t, B⟩ ⟨h1, h2, h3, h4⟩
  have h1 : gq n B rs := h1
  have h2 : j < n := h2
  have h3 : t ≤ 61 := h3
  have h4 : B ≤ 100000 := h4
  have hn := h1.1
  have hl := h1.2.2.2.2
  show wSs Γ ir37 [.val (objN n rs), .val (.int j), .val (.int t), .un, .un, .un, .un] _ _
  conv => whnf
  refine ⟨_, _, rfl, rfl, ?_⟩
  refine forL_gen rowD rs (fun done rest ρ => ∃ s4 s5 s6, ρ = [.val (objN n rs), .val (.int j), .val (.int t), .own (rowsD (done.map (frow j (t : Nat)))), s4, s5, s6]) ?_ ?_ ⟨_, _, _, rfl⟩
  · rintro ρ ⟨s4, s5, s6, rfl⟩
    conv => whnf
    refine ⟨_, _, rfl, rfl, ?_⟩
    conv => whnf
    refine ⟨.inl rfl, ?_⟩
    refine mk_run (n := n) rfl (by rw [List.length_map]; omega) (fr_ok h1.2.1) fun out ho => ?_
    exact ⟨rfl, out, ho, rfl⟩
  · rintro done ⟨p, c⟩ rest ρ nx bk he ⟨s4, s5, s6, rfl⟩ hnx -
    have hr : (p, c) ∈ rs := by rw [he]; simp
    have g1 : p.length = n := (h1.2.1 _ hr).1
    have g2 : bnd B c := h1.2.2.1 _ hr
    have hjp : j < p.length := by rw [g1]; exact h2
    have hat : 0 ≤ p.getD j 0 ∧ p.getD j 0 ≤ 60 := ok_at h1.2.1 hr h2
    have l1 : ((p.map D.int).take j).length = j := by rw [List.length_take, List.length_map]; omega
    have ec1 : VL.cutD (p.map D.int) none (some (j : Int)) = (p.map D.int).take j := cut_take _ _
    have ec2 : VL.cutD (p.map D.int) (some ((j : Int) + 1)) none = (p.map D.int).drop (j + 1) := by
      have := cut_drop (p.map D.int) (k := j + 1) (by rw [List.length_map]; omega)
      rw [← this]; congr 2
    obtain ⟨e, hep⟩ : ∃ e : Nat, p.getD j 0 = e := ⟨(p.getD j 0).toNat, by omega⟩
    conv => whnf
    refine ⟨_, rfl, ?_⟩
    conv => whnf
    rw [ec1]
    refine ⟨by simp only [List.length_map, List.length_cons, List.length_nil, l1]; show _ ≤ 1000000; omega, ?_⟩
    conv => whnf
    refine ⟨_, rfl, ?_⟩
    conv => whnf
    rw [ec2]
    refine ⟨by simp only [List.length_append, List.length_drop, List.length_map, List.length_cons, List.length_nil, l1]; show _ ≤ 1000000; omega, ?_⟩
    conv => whnf
    refine ⟨_, at_int hjp, ?_⟩
    conv => whnf
    refine call1 (n := e) (A := 6) (by rw [hep]; rfl) (nat_bnd h3) (by omega) (by omega) ?_
    conv => whnf
    refine ⟨mulok g2 (bnd_pow (nat_bnd h3) e) (by omega), ?_⟩
    conv => whnf
    refine ⟨.inl rfl, ⟨rfl, ?_⟩, ?_⟩
    · rw [List.length_map, List.length_map]
      have := congrArg List.length he
      rw [List.length_append] at this
      show _ < 1000000
      omega
    · refine hnx _ ⟨.val (tupD p), .val (.int c), .val (tupD (p.set j 0)), ?_⟩
      have es2 : D.tup ((p.map D.int).take j ++ List.map R.d [R.val (D.int 0)] ++ (p.map D.int).drop (j + 1)) = tupD (p.set j 0) := set_cut p j 0 hjp
      have ef : frow j (t : Nat) (p, c) = (p.set j 0, c * (t : Int) ^ e) := by
        unfold frow
        show (p.set j 0, c * (t : Int) ^ (p.getD j 0).toNat) = _
        rw [hep, Int.toNat_natCast]
      rw [es2, List.map_append, List.map_singleton, ef]
      unfold rowsD
      rw [List.map_append (l₂ := [_])]
      rfl
theorem fill_run {n j t B : Nat} {rs : List Mono} {K : Bool → D → Prop} {E : Exc → Prop} (h1 : gq n B rs) (h2 : j < n) (h3 : t ≤ 61) (h4 : B ≤ 100000) (h : ∀ out, gatR 61 (rs.map (frow j (t : Nat))) out → K false (objN n out)) : (Γ 37).run [objN n rs, .int j, .int t] K E :=
  run_of (s := Γ 37) (n, rs, j, t, B) rfl ⟨h1, h2, h3, h4⟩ (fun o e ⟨e1, out, g1, g2⟩ => by subst e1 g2; exact h out g1) fun e z => z.elim
theorem call19 {b : Int} {n A : Nat} {K : Bool → D → Prop} {E : Exc → Prop} {d : D} (e : d = .int (n : Nat)) (h1 : bnd A b) (h2 : A * n ≤ 400000) (h3 : n ≤ 1000) (h : K false (.int (b ^ n))) : (Γ 19).run [.int b, d] K E := by
  subst e
  exact run_det (α := Int × Nat × Nat) (b, n, A) rfl ⟨h1, h2, h3⟩ h
theorem val23 : VAL 23 ir23 N23 := by
  show ∀ x : Nat × List Mono × Nat × Nat × Nat, (gq x.1 x.2.2.2.2 x.2.1 ∧ x.2.2.1 < x.1 ∧ x.2.2.2.1 ≤ 61 ∧ x.2.2.2.2 ≤ 100000) → _
  rintro ⟨n, rs, j, t, B⟩ ⟨h1, h2, h3, h4⟩
  have h1 : gq n B rs := h1
  have h2 : j < n := h2
  have h3 : t ≤ 61 := h3
  have h4 : B ≤ 100000 := h4
  have hn := h1.1
  have hl := h1.2.2.2.2
  show wSs Γ ir23 [.val (rowsD rs), .val (.int j), .val (.int t), .un, .un, .un] _ _
  conv => whnf
  refine forL_gen rowD rs (fun done rest ρ => ∃ s4 s5, ρ = [.val (rowsD rs), .val (.int j), .val (.int t), .own (rowsD (done.map (frow j (t : Nat)))), s4, s5]) ?_ ?_ ⟨_, _, rfl⟩
  · rintro ρ ⟨s4, s5, rfl⟩
    conv => whnf
    refine ⟨.inl rfl, ?_⟩
    refine gath_runL (Γ := Γ) (n := 15) rfl (by show (rs.map (frow j (t : Nat))).length < 1000000; rw [List.length_map]; omega) (fr_ok h1.2.1) fun out ho => ?_
    exact ⟨rfl, out, ho, rfl⟩
  · rintro done ⟨p, c⟩ rest ρ nx bk he ⟨s4, s5, rfl⟩ hnx -
    have hr : (p, c) ∈ rs := by rw [he]; simp
    have g1 : p.length = n := (h1.2.1 _ hr).1
    have g2 : bnd B c := h1.2.2.1 _ hr
    have hjp : j < p.length := by rw [g1]; exact h2
    have hat : 0 ≤ p.getD j 0 ∧ p.getD j 0 ≤ 60 := ok_at h1.2.1 hr h2
    have l1 : ((p.map D.int).take j).length = j := by rw [List.length_take, List.length_map]; omega
    have ec1 : VL.cutD (p.map D.int) none (some (j : Int)) = (p.map D.int).take j := cut_take _ _
    have ec2 : VL.cutD (p.map D.int) (some ((j : Int) + 1)) none = (p.map D.int).drop (j + 1) := by
      have := cut_drop (p.map D.int) (k := j + 1) (by rw [List.length_map]; omega)
      rw [← this]; congr 2
    obtain ⟨e, hep⟩ : ∃ e : Nat, p.getD j 0 = e := ⟨(p.getD j 0).toNat, by omega⟩
    conv => whnf
    refine ⟨_, rfl, ?_⟩
    conv => whnf
    rw [ec1]
    refine ⟨by simp only [List.length_map, List.length_cons, List.length_nil, l1]; show _ ≤ 1000000; omega, ?_⟩
    conv => whnf
    refine ⟨_, rfl, ?_⟩
    conv => whnf
    rw [ec2]
    refine ⟨by simp only [List.length_append, List.length_drop, List.length_map, List.length_cons, List.length_nil, l1]; show _ ≤ 1000000; omega, ?_⟩
    conv => whnf
    refine ⟨_, at_int hjp, ?_⟩
    conv => whnf
    refine call19 (n := e) (A := 6) (by rw [hep]; rfl) (nat_bnd h3) (by omega) (by omega) ?_
    conv => whnf
    refine ⟨mulok g2 (bnd_pow (nat_bnd h3) e) (by omega), ?_⟩
    conv => whnf
    refine ⟨.inl rfl, ⟨rfl, ?_⟩, ?_⟩
    · rw [List.length_map, List.length_map]
      have := congrArg List.length he
      rw [List.length_append] at this
      show _ < 1000000
      omega
    · refine hnx _ ⟨.val (tupD p), .val (.int c), ?_⟩
      have es2 : D.tup ((p.map D.int).take j ++ List.map R.d [R.val (D.int 0)] ++ (p.map D.int).drop (j + 1)) = tupD (p.set j 0) := set_cut p j 0 hjp
      have ef : frow j (t : Nat) (p, c) = (p.set j 0, c * (t : Int) ^ e) := by
        unfold frow
        show (p.set j 0, c * (t : Int) ^ (p.getD j 0).toNat) = _
        rw [hep, Int.toNat_natCast]
      rw [es2, List.map_append, List.map_singleton, ef]
      unfold rowsD
      rw [List.map_append (l₂ := [_])]
      rfl
theorem put_run {n j t B : Nat} {rs : List Mono} {K : Bool → D → Prop} {E : Exc → Prop} (h1 : gq n B rs) (h2 : j < n) (h3 : t ≤ 61) (h4 : B ≤ 100000) (h : ∀ out, gatR 61 (rs.map (frow j (t : Nat))) out → K true (rowsD out)) : (Γ 23).run [rowsD rs, .int j, .int t] K E :=
  run_of (s := Γ 23) (n, rs, j, t, B) rfl ⟨h1, h2, h3, h4⟩ (fun o e ⟨e1, out, g1, g2⟩ => by subst e1 g2; exact h out g1) fun e z => z.elim

theorem hold_run {n j : Nat} {rs : List Mono} {K : Bool → D → Prop} {E : Exc → Prop} (h1 : Rn n rs) (h2 : rs.length ≤ 4096) (h3 : j < n) (h : K false (.bl (heldB rs j))) : (Γ 36).run [objN n rs, .int j] K E :=
  run_det (α := List Mono × Nat × Nat) (rs, n, j) rfl ⟨h1, h2, h3⟩ h
theorem val6 : VAL 6 ir6 N6 := by
  show ∀ x : Nat × List Mono × Nat × Nat, (gq x.1 x.2.2.2 x.2.1 ∧ x.2.1 ≠ [] ∧ x.2.2.1 < x.1 ∧ x.2.2.2 ≤ 100000) → _
  rintro ⟨n, rs, j, B⟩ ⟨h1, h2, h3, h4⟩
  have h1 : gq n B rs := h1
  have h2 : rs ≠ [] := h2
  have h3 : j < n := h3
  have h4 : B ≤ 100000 := h4
  have hl := h1.2.2.2.2
  show wSs Γ ir6 [.val (objN n rs), .val (.int j), .un, .un] _ _
  conv => whnf
  refine ⟨_, rfl, ?_⟩
  conv => whnf
  refine hold_run h1.rn hl h3 ?_
  conv => whnf
  refine ⟨fun q => ?_, fun q => ?_⟩
  · conv => whnf
    have q : heldB rs j = false := by
      have q : (!heldB rs j) = true := q
      cases h : heldB rs j
      · rfl
      · rw [h] at q; cases q
    exact ⟨rfl, 0, rs, .inl ⟨q, rfl, rfl⟩, rfl⟩
  · have q : heldB rs j = true := by
      have q : (!heldB rs j) = false := q
      cases h : heldB rs j
      · rw [h] at q; cases q
      · rfl
    conv => whnf
    refine ⟨_, rfl, ?_⟩
    conv => whnf
    refine fill_run (t := 0) h1 h3 (by omega) h4 fun out ho => ?_
    conv => whnf
    refine ⟨fun m ρ => ∃ (t : Nat) (out : List Mono), m = 61 - t ∧ t ≤ 60 ∧ gatR 61 (rs.map (frow j (t : Nat))) out ∧ (∀ s : Nat, s < t → gatR 61 (rs.map (frow j (s : Nat))) []) ∧ ρ = [.val (objN n rs), .val (.int j), .val (.int t), .val (objN n out)], ⟨61, 0, out, rfl, by omega, ho, (fun s hs => absurd hs (by omega)), rfl⟩, ?_⟩
    rintro m ρ ⟨t, out, rfl, t1, t2, t3, rfl⟩
    have ol := t2.2.2
    rw [List.length_map] at ol
    conv => whnf
    refine ⟨rfl, ?_⟩
    refine len_run (by omega) ?_
    refine ⟨_, rfl, by omega, by omega, ?_⟩
    conv => whnf
    refine ⟨fun q2 => ?_, fun q2 => ?_⟩
    · have e0 : out = [] := by
        have q2 : ((out.length : Nat) : Int) = 0 := of_decide_eq_true q2
        exact List.length_eq_zero_iff.mp (by omega)
      subst e0
      have t60 : t < 60 := emptied_lt h1 h2 h3 fun s hs => by
        rcases Nat.lt_or_eq_of_le hs with z | z
        · exact t3 s z
        · rw [z]; exact t2
      conv => whnf
      refine ⟨_, rfl, ?_⟩
      conv => whnf
      refine fill_run (t := t + 1) h1 h3 (by omega) h4 fun out ho => ?_
      exact ⟨61 - (t + 1), by omega, t + 1, out, rfl, by omega, ho, (fun s hs => by
        rcases Nat.lt_succ_iff_lt_or_eq.mp hs with z | z
        · exact t3 s z
        · rw [z]; exact t2), rfl⟩
    · have n0 : out ≠ [] := fun z => by
        subst z
        have q2 : ¬ ((([] : List Mono).length : Nat) : Int) = 0 := of_decide_eq_false q2
        exact q2 rfl
      conv => whnf
      exact ⟨rfl, t, out, .inr ⟨q, t1, n0, t2, t3⟩, rfl⟩
theorem least_run {n j B : Nat} {rs : List Mono} {K : Bool → D → Prop} {E : Exc → Prop} (h1 : gq n B rs) (h2 : rs ≠ []) (h3 : j < n) (h4 : B ≤ 100000) (h : ∀ t out, stepR rs j t out → K false (.tup [.int (t : Nat), objN n out])) : (Γ 6).run [objN n rs, .int j] K E :=
  run_of (s := Γ 6) (n, rs, j, B) rfl ⟨h1, h2, h3, h4⟩ (fun o e ⟨e1, t, out, g1, g2⟩ => by subst e1 g2; exact h t out g1) fun e z => z.elim
theorem rgI_mid {n : Nat} {done rest : List Int} {j : Int} (he : rgI 0 (n : Nat) = done ++ j :: rest) : j = (done.length : Nat) ∧ done.length < n := by
  have hj : (rgI 0 (n : Nat))[done.length]? = some j := by rw [he, List.getElem?_append_right (by omega), Nat.sub_self]; rfl
  have hin : done.length < n := by
    have := (List.getElem?_eq_some_iff.mp hj).1
    rw [rgI_len] at this
    omega
  refine ⟨?_, hin⟩
  unfold rgI at hj
  rw [List.getElem?_map, List.getElem?_range (by omega)] at hj
  have := Option.some.inj hj
  have : (0 : Int) + (done.length : Nat) = j := this
  omega
theorem natL_snoc (ts : List Nat) (t : Nat) : natL (ts ++ [t]) = .lst ((ts.map fun t : Nat => ((t : Nat) : Int)).map D.int ++ [.int (t : Nat)]) := by
  unfold natL ilst
  rw [List.map_append, List.map_append]; rfl
theorem val7 : VAL 7 ir7 N7 := by
  show ∀ x : Nat × List Mono × Nat, (gq x.1 x.2.2 x.2.1 ∧ x.2.2 ≤ 5000) → _
  rintro ⟨n, rs, B⟩ ⟨h1, h2⟩
  have h1 : gq n B rs := h1
  have h2 : B ≤ 5000 := h2
  have hn := h1.1
  have hl := h1.2.2.2.2
  show wSs Γ ir7 [.val (objN n rs), .un, .un, .un, .un] _ _
  conv => whnf
  refine ⟨rfl, ?_⟩
  refine len_run (by omega) ?_
  refine ⟨_, rfl, by omega, by omega, ?_⟩
  conv => whnf
  refine ⟨fun q => ?_, fun q => ?_⟩
  · have e0 : rs = [] := by
      have q : ((rs.length : Nat) : Int) = 0 := of_decide_eq_true q
      exact List.length_eq_zero_iff.mp (by omega)
    conv => whnf
    exact .inl ⟨e0, rfl, rfl⟩
  · have n0 : rs ≠ [] := fun z => by
      subst z
      have q : ¬ ((([] : List Mono).length : Nat) : Int) = 0 := of_decide_eq_false q
      exact q rfl
    conv => whnf
    refine ⟨_, _, rfl, rfl, ?_⟩
    conv => whnf
    refine ⟨⟨by omega, by omega⟩, ?_⟩
    rw [rngD_ints]
    refine forL_gen D.int (rgI 0 (n : Nat)) (fun done rest ρ => ∃ ts left s3 s4, ts.length = done.length ∧ PointR rs ts left ∧ ρ = [.val (objN n rs), .own (natL ts), .val (objN n left), s3, s4]) ?_ ?_ ⟨[], rs, _, _, rfl, .nil, rfl⟩
    · rintro ρ ⟨ts, left, s3, s4, e1, e2, rfl⟩
      rw [rgI_len] at e1
      conv => whnf
      exact .inr ⟨n0, rfl, ts, left, by show ts.length = n; omega, e2, rfl⟩
    · rintro done j rest ρ nx bk he ⟨ts, left, s3, s4, e1, e2, rfl⟩ hnx -
      obtain ⟨rfl, hj⟩ := rgI_mid he
      obtain ⟨g1, g2, -⟩ := e2.gq h1 n0 (by omega)
      conv => whnf
      refine least_run g1 g2 (j := done.length) hj (by omega) fun t out hs => ?_
      conv => whnf
      refine ⟨.inl rfl, ⟨rfl, by rw [List.length_map, List.length_map]; show _ < 1000000; omega⟩, ?_⟩
      refine hnx _ ⟨ts ++ [t], out, _, _, by rw [List.length_append, List.length_append, e1]; rfl, .snoc e2 (by rw [e1]; exact hs), by rw [natL_snoc]; rfl⟩
theorem point_run {n B : Nat} {rs : List Mono} {K : Bool → D → Prop} {E : Exc → Prop} (h1 : gq n B rs) (h2 : B ≤ 5000) (h : rs = [] → K false .non) (h' : rs ≠ [] → ∀ ts left, ts.length = n → PointR rs ts left → K true (natL ts)) : (Γ 7).run [objN n rs] K E :=
  run_of (s := Γ 7) (n, rs, B) rfl ⟨h1, h2⟩ (fun o e z => by
    rcases z with ⟨e0, rfl, rfl⟩ | ⟨n0, rfl, ts, left, e1, e2, rfl⟩
    · exact h e0
    · exact h' n0 ts left e1 e2) fun e z => z.elim
theorem sum_held {n j : Nat} : ∀ {rs : List Mono}, Rn n rs → j < n → (0 < (rs.map fun r => r.1.getD j 0).sum ↔ heldB rs j = true)
  | [], _, _ => by constructor <;> intro h <;> cases h
  | r :: rs, h, hj => by
    have ih := sum_held (rs := rs) (fun r' hr => h r' (List.mem_cons_of_mem _ hr)) hj
    have h0 := rn_at h (r := r) List.mem_cons_self hj
    have s0 : 0 ≤ (rs.map fun r => r.1.getD j 0).sum := sum_nn fun k hk => by
      obtain ⟨q, hq, rfl⟩ := List.mem_map.mp hk
      exact rn_at h (List.mem_cons_of_mem _ hq) hj
    rw [List.map_cons, List.sum_cons]
    show _ ↔ (decide (0 < r.1.getD j 0) || heldB rs j) = true
    rw [Bool.or_eq_true, decide_eq_true_iff, ← ih]
    omega
def trialB : VSs := (.cons (.asg (.nm 5) (.var 7))
  (.cons (.ifS (.tv (.cmp .Gt (.blt .len (.cons (.call 23 (.cons (.var 3) (.cons (.var 4) (.cons (.var 7) .nil)))) .nil)) (.cst (.int 0)))) (.cons .brk
  .nil) .nil)
  .nil))
def trialS : VSs := (.cons (.forS (.nm 7) (.rng (.cons (.cst (.int 62)) .nil)) trialB)
  (.cons (.asg (.nm 3) (.call 23 (.cons (.var 3) (.cons (.var 4) (.cons (.var 5) .nil)))))
  .nil))
theorem trial_loop {n B j : Nat} {left : List Mono} {s0 s1 s2 s7 : VL.Slot} {nx bk ct : En → Prop} {rt : Bool → D → Prop} {E : VL.XK} (g1 : gq n B left) (g2 : left ≠ []) (hj : j < n) (hB : B ≤ 100000) (hh : heldB left j = true)
    (fin : ∀ t out s7, stepR left j t out → nx [s0, s1, s2, .own (rowsD out), .val (.int (j : Nat)), .val (.int (t : Nat)), .un, s7]) :
    wSs Γ trialS [s0, s1, s2, .val (rowsD left), .val (.int (j : Nat)), .val (.int 0), .un, s7] { nx := nx, rt := rt, bk := bk, ct := ct } E := by
  have gl := g1.2.2.2.2
  have aft : ∀ (t : Nat) (out : List Mono), out ≠ [] → gatR 61 (left.map (frow j (t : Nat))) out → (∀ s : Nat, s < t → gatR 61 (left.map (frow j (s : Nat))) []) → wSs Γ (.cons (.asg (.nm 3) (.call 23 (.cons (.var 3) (.cons (.var 4) (.cons (.var 5) .nil))))) .nil) [s0, s1, s2, .val (rowsD left), .val (.int (j : Nat)), .val (.int (t : Nat)), .un, .val (.int (t : Nat))] { nx := nx, rt := rt, bk := bk, ct := ct } E := fun t out o0 ho hs => by
    have t60 : t ≤ 60 := by
      rcases Nat.eq_zero_or_pos t with z | z
      · omega
      · have := emptied_lt (m := t - 1) g1 g2 hj fun s h => hs s (by omega)
        omega
    conv => whnf
    refine put_run g1 hj (t := t) (by omega) hB fun out2 ho2 => ?_
    obtain rfl : out = out2 := ho.uniq ho2 fun _ => rfl
    exact fin t out _ (.inr ⟨hh, t60, o0, ho, hs⟩)
  unfold trialS
  conv => whnf
  refine ⟨⟨by decide, by decide⟩, ?_⟩
  rw [rngD_ints]
  have hZ : ∀ (done rest : List Int) (k : Int), rgI 0 62 = done ++ k :: rest → k = (done.length : Nat) ∧ done.length < 62 := fun done rest k he => rgI_mid (n := 62) he
  have lZ : (rgI 0 62).length = 62 := rfl
  generalize rgI 0 62 = Z at *
  refine forL_gen D.int Z (fun done rest ρ => ∃ s5 s7, (∀ s : Nat, s < done.length → gatR 61 (left.map (frow j (s : Nat))) []) ∧ ρ = [s0, s1, s2, .val (rowsD left), .val (.int (j : Nat)), s5, .un, s7]) ?_ ?_ ⟨_, _, (fun s h => absurd h (by simp)), rfl⟩
  · rintro ρ ⟨s5, s7, hs, rfl⟩
    exfalso
    have := emptied_lt (m := 61) g1 g2 hj fun s h => hs s (by omega)
    omega
  · rintro done k rest ρ nx2 bk2 he ⟨s5, s7, hs, rfl⟩ hnx hbk
    obtain ⟨rfl, hk⟩ := hZ done rest k he
    unfold trialB
    conv => whnf
    refine put_run g1 hj (t := done.length) (by omega) hB fun out ho => ?_
    have ol := ho.2.2
    rw [List.length_map] at ol
    conv => whnf
    refine ⟨fun q => ?_, fun q => ?_⟩
    · have q : (0 : Int) < ((out.map rowD).length : Nat) := of_decide_eq_true q
      rw [List.length_map] at q
      have o0 : out ≠ [] := fun z => by subst z; exact absurd q (by decide)
      exact hbk _ (aft done.length out o0 ho hs)
    · have q : ¬ (0 : Int) < ((out.map rowD).length : Nat) := of_decide_eq_false q
      rw [List.length_map] at q
      have o0 : out = [] := List.length_eq_zero_iff.mp (by omega)
      subst o0
      refine hnx _ ⟨_, _, fun s h => ?_, rfl⟩
      rw [List.length_append] at h
      have h : s < done.length + 1 := h
      rcases Nat.lt_succ_iff_lt_or_eq.mp h with z | z
      · exact hs s z
      · rw [z]; exact ho
theorem val27 : VAL 27 ir27 N27 := by
  show ∀ x : Nat × List Mono × Nat, (gq x.1 x.2.2 x.2.1 ∧ x.2.2 ≤ 5000 ∧ x.2.1 ≠ []) → _
  rintro ⟨n, rs, B⟩ ⟨h1, h2, n0⟩
  have h1 : gq n B rs := h1
  have h2 : B ≤ 5000 := h2
  have n0 : rs ≠ [] := n0
  have hn := h1.1
  have hl := h1.2.2.2.2
  show wSs Γ ir27 [.val (rowsD rs), .val (.int n), .un, .un, .un, .un, .un, .un] _ _
  conv => whnf
  refine ⟨⟨by omega, by omega⟩, ?_⟩
  rw [rngD_ints]
  refine forL_gen D.int (rgI 0 (n : Nat)) (fun done rest ρ => ∃ ts left s3 s4 s5 s7, ts.length = done.length ∧ PointR rs ts left ∧ (s3 = .own (rowsD left) ∨ s3 = .val (rowsD left)) ∧ ρ = [.val (rowsD rs), .val (.int n), .own (natL ts), s3, s4, s5, .un, s7]) ?_ ?_ ⟨[], rs, .val (rowsD rs), _, _, _, rfl, .nil, .inr rfl, rfl⟩
  · rintro ρ ⟨ts, left, s3, s4, s5, s7, e1, e2, -, rfl⟩
    rw [rgI_len] at e1
    conv => whnf
    exact ⟨rfl, ts, left, by show ts.length = n; omega, e2, rfl⟩
  · rintro done j rest ρ nx bk he ⟨ts, left, s3, s4, s5, s7, e1, e2, hs3, rfl⟩ hnx -
    obtain ⟨rfl, hj⟩ := rgI_mid he
    obtain ⟨g1, g2, -⟩ := e2.gq h1 n0 (by omega)
    have gl := g1.2.2.2.2
    have grn := g1.rn
    have fin : ∀ (t : Nat) (out : List Mono) (s3 : VL.Slot) s7, stepR left done.length t out → (s3 = .own (rowsD out) ∨ s3 = .val (rowsD out)) → wSs Γ (.cons (.ex (.met .append (.var 2) (.cons (.var 5) .nil))) .nil) [.val (rowsD rs), .val (.int n), .own (natL ts), s3, .val (.int (done.length : Nat)), .val (.int t), .un, s7] { nx := nx, rt := (Γ 27).post (n, rs, B), bk := bk, ct := nx } (fun e _ => (Γ 27).exc (n, rs, B) e) := fun t out s3 s7 hs h3 => by
      conv => whnf
      refine ⟨.inl rfl, ⟨rfl, by rw [List.length_map, List.length_map]; show _ < 1000000; omega⟩, ?_⟩
      exact hnx _ ⟨ts ++ [t], out, s3, _, _, s7, by rw [List.length_append, List.length_append, e1]; rfl, .snoc e2 (by rw [e1]; exact hs), h3, by rw [natL_snoc]; rfl⟩
    rcases hs3 with rfl | rfl
    all_goals
      conv => whnf
      refine compL_gen rowD (fun _ => true) (fun r => .int (r.1.getD done.length 0)) (ρ := [.val (rowsD rs), .val (.int n), .own (natL ts), .val (rowsD left), .val (.int (done.length : Nat)), .val (.int 0), .un, s7]) (fun r => [.val (rowsD rs), .val (.int n), .own (natL ts), .val (rowsD left), .val (.int (done.length : Nat)), .val (.int 0), .val (rowD r), s7]) (fun _ => rfl) _ _ (by show 0 + left.length ≤ 1000000; omega) (fun r hr Ka Ks ha _ => ?_) ?_
      · conv => whnf
        refine ⟨fun _ => ?_, (fun z => by cases z)⟩
        conv => whnf
        refine ⟨_, rfl, ?_⟩
        conv => whnf
        refine ⟨_, at_int (p := r.1) (j := done.length) (by rw [(grn r hr).1]; exact hj), ?_⟩
        exact ha rfl
      rw [List.filter_eq_self.mpr (fun _ _ => rfl), List.nil_append]
      conv => whnf
      refine ⟨_, intsL (h := fun r : Mono => r.1.getD done.length 0) left, ?_⟩
      conv => whnf
      refine ⟨fun q => ?_, fun q => ?_⟩
      · have q := of_decide_eq_true q
        have hh : heldB left done.length = true := (sum_held grn hj).mp q
        exact trial_loop g1 g2 hj (by omega) hh (fun t out s7 hs => fin t out (.own (rowsD out)) s7 hs (.inl rfl))
      · have q := of_decide_eq_false q
        have hh : heldB left done.length = false := by
          cases h : heldB left done.length
          · rfl
          · exact absurd ((sum_held grn hj).mpr h) q
        exact fin 0 left _ _ (.inl ⟨hh, rfl, rfl⟩) (.inr rfl)

theorem prod_len (a b : List Mono) : (prodR a b).length = a.length * b.length := by
  induction a with
  | nil => simp [prodR]
  | cons r a ih =>
    show (b.map _ ++ prodR a b).length = _
    rw [List.length_append, List.length_map, ih, List.length_cons, Nat.succ_mul, Nat.add_comm]
theorem call17 {n j : Nat} {f : Int} {K : Bool → D → Prop} {E : Exc → Prop} (h1 : n ≤ 64) (h2 : j < n) (h : ∀ out, gatR 61 [(unitP n j, 1), (zeroP n, f)] out → K true (rowsD out)) : (Γ 17).run [.int n, .int j, .int f] K E :=
  run_of (s := Γ 17) (n, j, f) rfl ⟨h1, h2⟩ (fun o e ⟨e1, out, h1, h2⟩ => by subst e1 h2; exact h out h1) fun e z => z.elim
theorem val17 : VAL 17 ir17 N17 := by
  show ∀ x : Nat × Nat × Int, (x.1 ≤ 64 ∧ x.2.1 < x.1) → _
  rintro ⟨n, j, f⟩ ⟨h1, h2⟩
  have h1 : n ≤ 64 := h1
  have h2 : j < n := h2
  show wSs Γ ir17 [.val (.int n), .val (.int j), .val (.int f), .un, .un] _ _
  conv => whnf
  refine ⟨⟨by omega, by omega⟩, ?_⟩
  conv => whnf
  rw [rngD_ints]
  refine compL_gen D.int (fun _ => true) (fun k => .int (if decide (k = (j : Int)) then 1 else 0)) (ρ := [.val (.int n), .val (.int j), .val (.int f), .un, .un]) (fun k => [.val (.int n), .val (.int j), .val (.int f), .val (.int k), .un]) (fun _ => rfl) _ _ (by rw [rgI_len]; show 0 + ((n : Int) - 0).toNat ≤ 1000000; omega) (fun k hk Ka Ks ha _ => ?_) ?_
  · conv => whnf
    refine ⟨fun _ => ?_, (fun z => by cases z)⟩
    exact ha rfl
  rw [List.filter_eq_self.mpr (fun _ _ => rfl), List.nil_append, unit_map]
  conv => whnf
  refine ⟨⟨by omega, by omega⟩, ?_⟩
  conv => whnf
  rw [rngD_ints]
  refine compL_gen D.int (fun _ => true) (fun _ => .int 0) (ρ := [.val (.int n), .val (.int j), .val (.int f), .un, .val (tupD (unitP n j))]) (fun k => [.val (.int n), .val (.int j), .val (.int f), .val (.int k), .val (tupD (unitP n j))]) (fun _ => rfl) _ _ (by rw [rgI_len]; show 0 + ((n : Int) - 0).toNat ≤ 1000000; omega) (fun k hk Ka Ks ha _ => ?_) ?_
  · conv => whnf
    refine ⟨fun _ => ?_, (fun z => by cases z)⟩
    exact ha rfl
  rw [List.filter_eq_self.mpr (fun _ _ => rfl), List.nil_append, zero_map]
  conv => whnf
  refine gath_runL (Γ := Γ) (n := 15) (rs := [(unitP n j, 1), (zeroP n, f)]) rfl (by show 2 < 1000000; omega) ((sole_dg h2).ok (by decide)) fun out ho => ?_
  exact ⟨rfl, out, ho, rfl⟩
theorem call16 {n : Nat} {a b : List Mono} {K : Bool → D → Prop} {E : Exc → Prop} (h1 : Rn n a) (h2 : Rn n b) (h3 : Cb 100000 a) (h4 : Cb 100000 b) (h5 : a.length * b.length < 1000000) (h6 : OkR n 61 (prodR a b)) (h7 : n ≤ 64) (h : ∀ out, gatR 61 (prodR a b) out → K true (rowsD out)) : (Γ 16).run [rowsD a, rowsD b] K E :=
  run_of (s := Γ 16) (n, a, b) rfl ⟨h1, h2, h3, h4, h5, h6, h7⟩ (fun o e ⟨e1, out, h1, h2⟩ => by subst e1 h2; exact h out h1) fun e z => z.elim
theorem val16 : VAL 16 ir16 N16 := by
  show ∀ x : Nat × List Mono × List Mono, (Rn x.1 x.2.1 ∧ Rn x.1 x.2.2 ∧ Cb 100000 x.2.1 ∧ Cb 100000 x.2.2 ∧ x.2.1.length * x.2.2.length < 1000000 ∧ OkR x.1 61 (prodR x.2.1 x.2.2) ∧ x.1 ≤ 64) → _
  rintro ⟨n, a, b⟩ ⟨h1, h2, h3, h4, h5, h6, h7⟩
  have h1 : Rn n a := h1
  have h2 : Rn n b := h2
  have h3 : Cb 100000 a := h3
  have h4 : Cb 100000 b := h4
  have h5 : a.length * b.length < 1000000 := h5
  have h6 : OkR n 61 (prodR a b) := h6
  have h7 : n ≤ 64 := h7
  show wSs Γ ir16 [.val (rowsD a), .val (rowsD b), .un, .un, .un, .un, .un, .un, .un] _ _
  conv => whnf
  refine .inr ?_
  conv => whnf
  refine forL_gen rowD a (fun done rest ρ => ∃ ks s3 s4 s5 s6 s8, Keys ks (prodR done b) ∧ Slot.nown s3 ∧ ρ = [.val (rowsD a), .val (rowsD b), .own (dT ks (prodR done b)), s3, s4, s5, s6, .un, s8]) ?_ ?_ ⟨[], .un, .un, .un, .un, .un, ⟨List.nodup_nil, fun p => by simp [prodR], Nat.le_refl _⟩, nown_un, rfl⟩
  · rintro ρ ⟨ks, s3, s4, s5, s6, s8, hk, hs2, rfl⟩
    conv => whnf
    refine ⟨.inl rfl, ?_⟩
    conv => whnf
    refine vSort_keys hk h6 fun qs hp hs => ?_
    have hmem : ∀ q ∈ qs, q ∈ ks := fun q h => hp.mem_iff.mp h
    have hql : qs.length < 1000000 := by rw [hp.length_eq]; have := hk.len; rw [prod_len] at this; omega
    refine noOwn1 rfl hs2 ?_
    refine compL_gen tupD (fun p => decide (coef (prodR a b) p ≠ 0)) (fun p => rowD (p, coef (prodR a b) p)) (ρ := [.val (rowsD a), .val (rowsD b), .own (dT ks (prodR a b)), .un, s4, s5, s6, .un, s8]) (fun p => [.val (rowsD a), .val (rowsD b), .own (dT ks (prodR a b)), .val (tupD p), s4, s5, s6, .un, s8]) (fun p => rfl) _ _ (by show 0 + qs.length ≤ 1000000; omega) (fun p hp Ka Ks ha hs => ?_) ?_
    · conv => whnf
      refine ⟨.inl rfl, _, _, keys_tup p, dT_ix (hmem p hp), ?_⟩
      conv => whnf
      have e : decide (coef (prodR a b) p ≠ 0) = !decide (coef (prodR a b) p = 0) := by simp
      rw [e] at ha hs
      refine ⟨fun h => ?_, fun h => hs h⟩
      conv => whnf
      refine ⟨.inl rfl, _, _, keys_tup p, dT_ix (hmem p hp), ?_⟩
      exact ha h
    · conv => whnf
      exact ⟨rfl, _, gat_of hk h6 hp hs, by rw [List.nil_append]; unfold rowsD; rw [List.map_map]; rfl⟩
  · rintro done ⟨p, c⟩ rest ρ nx bk he ⟨ks, s3, s4, s5, s6, s8, hk, hs2, rfl⟩ hnx -
    have hr : (p, c) ∈ a := by rw [he]; simp
    have hpn : p.length = n := (h1 _ hr).1
    conv => whnf
    refine forL_gen rowD b (fun done2 rest2 ρ => ∃ ks s5 s6 s8, Keys ks (prodR done b ++ done2.map fun s => (List.zipWith (· + ·) p s.1, c * s.2)) ∧ ρ = [.val (rowsD a), .val (rowsD b), .own (dT ks (prodR done b ++ done2.map fun s => (List.zipWith (· + ·) p s.1, c * s.2))), .val (tupD p), .val (.int c), s5, s6, .un, s8]) ?_ ?_ ⟨ks, s5, s6, s8, by rw [List.map_nil, List.append_nil]; exact hk, by rw [List.map_nil, List.append_nil]; rfl⟩
    · rintro ρ ⟨ks, s5, s6, s8, hk, rfl⟩
      conv => whnf
      refine hnx _ ⟨ks, .val (tupD p), .val (.int c), s5, s6, s8, by rw [prodR_snoc]; exact hk, nown_val, by rw [prodR_snoc]⟩
    · rintro done2 ⟨q, d⟩ rest2 ρ nx2 bk2 he2 ⟨ks, s5, s6, s8, hk, rfl⟩ hnx2 -
      have hs : (q, d) ∈ b := by rw [he2]; simp
      have hqn : q.length = n := (h2 _ hs).1
      conv => whnf
      refine ⟨⟨by rw [List.length_map]; omega, by rw [List.length_map]; omega⟩, ?_⟩
      conv => whnf
      rw [List.length_map, hpn, rngD_ints]
      refine compL_gen D.int (fun _ => true) (fun j => .int (p.getD j.toNat 0 + q.getD j.toNat 0)) (ρ := [.val (rowsD a), .val (rowsD b), .own (dT ks (prodR done b ++ done2.map fun s => (List.zipWith (· + ·) p s.1, c * s.2))), .val (tupD p), .val (.int c), .val (tupD q), .val (.int d), .un, s8]) (fun j => [.val (rowsD a), .val (rowsD b), .own (dT ks (prodR done b ++ done2.map fun s => (List.zipWith (· + ·) p s.1, c * s.2))), .val (tupD p), .val (.int c), .val (tupD q), .val (.int d), .val (.int j), s8]) (fun _ => rfl) _ _ (by rw [rgI_len]; show 0 + ((n : Int) - 0).toNat ≤ 1000000; omega) (fun j hj Ka Ks ha _ => ?_) ?_
      · obtain ⟨i, rfl, hi⟩ := mem_rgI.mp hj
        rw [Int.toNat_natCast] at ha
        conv => whnf
        refine ⟨fun _ => ?_, (fun z => by cases z)⟩
        conv => whnf
        refine ⟨_, at_int (p := p) (by omega), ?_⟩
        conv => whnf
        refine ⟨_, at_int (p := q) (by omega), ?_⟩
        exact ha rfl
      rw [List.filter_eq_self.mpr (fun _ _ => rfl), List.nil_append, zip_map hpn hqn]
      generalize hz : List.zipWith (· + ·) p q = z
      conv => whnf
      refine ⟨.inl rfl, ?_⟩
      conv => whnf
      refine ⟨kk z, keys_tup z, rfl, ?_⟩
      have e : (dget (ks.map kk) (ks.map fun p' => D.int (coef (prodR done b ++ done2.map fun s => (List.zipWith (· + ·) p s.1, c * s.2)) p')) (kk z)).getD ((R.val (D.int 0)).d) = .int (coef (prodR done b ++ done2.map fun s => (List.zipWith (· + ·) p s.1, c * s.2)) z) := dT_get hk z
      rw [e]
      conv => whnf
      refine ⟨mulok (h3 _ hr) (h4 _ hs) (by decide), ?_⟩
      conv => whnf
      refine ⟨.inl rfl, ?_⟩
      conv => whnf
      have hln : ks.length < 1000000 := by
        have := hk.len
        rw [List.length_append, List.length_map, prod_len] at this
        have l1 := congrArg List.length he
        rw [List.length_append, List.length_cons] at l1
        have l2 := congrArg List.length he2
        rw [List.length_append, List.length_cons] at l2
        have := Nat.mul_le_mul_right b.length (show done.length + 1 ≤ a.length by omega)
        rw [Nat.succ_mul] at this
        omega
      have ea : (prodR done b ++ (done2 ++ [(q, d)]).map fun s => (List.zipWith (· + ·) p s.1, c * s.2)) = (prodR done b ++ done2.map fun s => (List.zipWith (· + ·) p s.1, c * s.2)) ++ [(z, c * d)] := by
        rw [List.map_append, List.append_assoc, List.map_singleton, hz]
      refine ⟨_, keys_tup z, rfl, by rw [List.length_map]; exact hln, hnx2 _ ⟨kput ks z, .val (tupD q), .val (.int d), .val (tupD z), by rw [ea]; exact hk.put z (c * d), by rw [ea, ← dT_put]; rfl⟩⟩
theorem rep0 (n : Nat) : (List.replicate ((n : Nat) : Int).toNat [D.int 0]).flatten = (zeroP n).map D.int := by
  rw [Int.toNat_natCast]
  unfold zeroP
  induction n with
  | zero => rfl
  | succ n ih => rw [List.replicate_succ, List.flatten_cons, ih]; rfl
theorem unit_parts {n j : Nat} (h : j < n) : (zeroP j).map D.int ++ [D.int 1] ++ (zeroP (n - j - 1)).map D.int = (unitP n j).map D.int := by
  rw [show [D.int 1] = [(1 : Int)].map D.int from rfl, ← List.map_append, ← List.map_append]
  congr 1
  unfold zeroP unitP
  refine List.ext_getElem? fun i => ?_
  rw [List.getElem?_map]
  by_cases h1 : i < j
  · rw [List.append_assoc, List.getElem?_append_left (by simpa using h1), List.getElem?_replicate, if_pos h1, List.getElem?_range (by omega)]
    show some (0 : Int) = some (if i = j then 1 else 0)
    rw [if_neg (by omega)]
  · by_cases h2 : i = j
    · subst h2
      rw [List.append_assoc, List.getElem?_append_right (by simp), List.length_replicate, Nat.sub_self, List.getElem?_range (by omega)]
      show some (1 : Int) = some (if i = i then 1 else 0)
      rw [if_pos rfl]
    · rw [List.getElem?_append_right (by simp; omega)]
      by_cases h3 : i < n
      · rw [List.getElem?_replicate, if_pos (by simp; omega), List.getElem?_range (by omega)]
        show some (0 : Int) = some (if i = j then 1 else 0)
        rw [if_neg h2]
      · rw [List.getElem?_eq_none (by simp; omega), List.getElem?_eq_none (by simp; omega)]; rfl
theorem val4 : VAL 4 ir4 N4 := by
  show ∀ x : Nat × Int, x.1 ≤ 64 → _
  rintro ⟨n, v⟩ h1
  have h1 : n ≤ 64 := h1
  show wSs Γ ir4 [.val (.int n), .val (.int v)] _ _
  conv => whnf
  refine ⟨⟨by simp, by omega, by omega, by show 1 ≤ 1000; decide⟩, ?_⟩
  conv => whnf
  have e := rep0 n
  refine mk_run (n := n) (rs := [(zeroP n, v)]) (by show D.lst [D.tup [D.tup (List.replicate ((n : Nat) : Int).toNat [D.int 0]).flatten, D.int v]] = _; rw [e]; rfl) (by show 1 < 1000000; decide) (fun r hr => ?_) fun out ho => ⟨rfl, out, ho, rfl⟩
  rw [List.mem_singleton] at hr
  rw [hr]
  exact dg_bd (zero_dg n) (by decide)
theorem const_run {n : Nat} {v : Int} {K : Bool → D → Prop} {E : Exc → Prop} (h1 : n ≤ 64) (h : ∀ out, gatR 61 [(zeroP n, v)] out → K false (objN n out)) : (Γ 4).run [.int n, .int v] K E :=
  run_of (s := Γ 4) (n, v) rfl h1 (fun o e ⟨e1, out, g1, g2⟩ => by subst e1 g2; exact h out g1) fun e z => z.elim
theorem val5 : VAL 5 ir5 N5 := by
  show ∀ x : Nat × Nat, (x.1 ≤ 64 ∧ x.2 < x.1) → _
  rintro ⟨n, j⟩ ⟨h1, h2⟩
  have h1 : n ≤ 64 := h1
  have h2 : j < n := h2
  show wSs Γ ir5 [.val (.int n), .val (.int j)] _ _
  conv => whnf
  refine ⟨⟨by simp, by omega, by omega, by show 1 ≤ 1000; decide⟩, ?_⟩
  have l0 : ∀ k : Nat, ((zeroP k).map D.int).length = k := fun k => by rw [List.length_map]; unfold zeroP; rw [List.length_replicate]
  have er : ∀ k : Nat, (List.replicate ((k : Nat) : Int).toNat (List.map R.d [R.val (D.int 0)])).flatten = (zeroP k).map D.int := rep0
  rw [er j]
  conv => whnf
  refine ⟨by rw [l0]; show j + 1 ≤ 1000000; omega, ?_⟩
  conv => whnf
  refine ⟨⟨by simp, by omega, by omega, by show 1 ≤ 1000; decide⟩, ?_⟩
  rw [show (n : Int) - (j : Nat) - 1 = ((n - j - 1 : Nat) : Int) by omega, er (n - j - 1)]
  conv => whnf
  refine ⟨by rw [List.length_append, l0, l0]; show j + 1 + (n - j - 1) ≤ 1000000; omega, ?_⟩
  conv => whnf
  have e := unit_parts h2
  refine mk_run (n := n) (rs := [(unitP n j, 1)]) (by show D.lst [D.tup [D.tup ((zeroP j).map D.int ++ [D.int 1] ++ (zeroP (n - j - 1)).map D.int), D.int 1]] = _; rw [e]; rfl) (by show 1 < 1000000; decide) (fun r hr => ?_) fun out ho => ⟨rfl, out, ho, rfl⟩
  rw [List.mem_singleton] at hr
  rw [hr]
  exact dg_bd (unit_dg h2) (by decide)
theorem var_run {n j : Nat} {K : Bool → D → Prop} {E : Exc → Prop} (h1 : n ≤ 64) (h2 : j < n) (h : ∀ out, gatR 61 [(unitP n j, 1)] out → K false (objN n out)) : (Γ 5).run [.int n, .int j] K E :=
  run_of (s := Γ 5) (n, j) rfl ⟨h1, h2⟩ (fun o e ⟨e1, out, g1, g2⟩ => by subst e1 g2; exact h out g1) fun e z => z.elim
theorem val34 : VAL 34 ir34 N34 := by
  show ∀ x : Nat × List Mono × List Mono, (x.1 ≤ 64 ∧ OkR x.1 61 x.2.1 ∧ OkR x.1 61 x.2.2 ∧ x.2.1.length ≤ 4096 ∧ x.2.2.length ≤ 4096) → _
  rintro ⟨n, a, b⟩ ⟨h1, h2, h3, h4, h5⟩
  have h1 : n ≤ 64 := h1
  have h2 : OkR n 61 a := h2
  have h3 : OkR n 61 b := h3
  have h4 : a.length ≤ 4096 := h4
  have h5 : b.length ≤ 4096 := h5
  show wSs Γ ir34 [.val (objN n a), .val (objN n b), .un, .un, .un] _ _
  conv => whnf
  refine run3 ?_
  conv => whnf
  refine ⟨_, _, rfl, rfl, ?_⟩
  conv => whnf
  refine compL_gen rowD (fun _ => true) (fun r => rowD (r.1, -r.2)) (ρ := [.val (objN n a), .val (objN n b), .un, .un, .un]) (fun r => [.val (objN n a), .val (objN n b), .val (tupD r.1), .val (.int r.2), .un]) (fun _ => rfl) _ _ (by show 0 + b.length ≤ 1000000; omega) (fun r hr Ka Ks ha _ => ?_) ?_
  · conv => whnf
    refine ⟨fun _ => ?_, (fun z => by cases z)⟩
    exact ha rfl
  rw [List.filter_eq_self.mpr (fun _ _ => rfl), List.nil_append]
  conv => whnf
  refine ⟨_, _, rfl, rfl, ?_⟩
  conv => whnf
  refine ⟨_, _, rfl, rfl, ?_⟩
  conv => whnf
  have e : D.lst (a.map rowD ++ b.map fun r => rowD (r.1, -r.2)) = rowsD (a ++ negR b) := by
    unfold rowsD negR
    rw [List.map_append, List.map_map]; rfl
  refine ⟨by rw [List.length_map, List.length_map]; show _ ≤ 1000000; omega, ?_⟩
  conv => whnf
  refine mk_run (n := n) (rs := a ++ negR b) e (by unfold negR; rw [List.length_append, List.length_map]; omega) (fun r hr => ?_) fun out ho => ⟨rfl, out, ho, rfl⟩
  rcases List.mem_append.mp hr with z | z
  · exact h2 r z
  · unfold negR at z
    obtain ⟨q, hq, rfl⟩ := List.mem_map.mp z
    exact h3 q hq
theorem sub_run {n : Nat} {a b : List Mono} {K : Bool → D → Prop} {E : Exc → Prop} (h1 : n ≤ 64) (h2 : OkR n 61 a) (h3 : OkR n 61 b) (h4 : a.length ≤ 4096) (h5 : b.length ≤ 4096) (h : ∀ out, gatR 61 (a ++ negR b) out → K false (objN n out)) : (Γ 34).run [objN n a, objN n b] K E :=
  run_of (s := Γ 34) (n, a, b) rfl ⟨h1, h2, h3, h4, h5⟩ (fun o e ⟨e1, out, g1, g2⟩ => by subst e1 g2; exact h out g1) fun e z => z.elim
theorem val35 : VAL 35 ir35 N35 := by
  show ∀ x : Nat × List Mono × List Mono, (Rn x.1 x.2.1 ∧ Rn x.1 x.2.2 ∧ Cb 100000 x.2.1 ∧ Cb 100000 x.2.2 ∧ x.2.1.length * x.2.2.length < 1000000 ∧ OkR x.1 61 (prodR x.2.1 x.2.2) ∧ x.1 ≤ 64) → _
  rintro ⟨n, a, b⟩ ⟨h1, h2, h3, h4, h5, h6, h7⟩
  have h1 : Rn n a := h1
  have h2 : Rn n b := h2
  have h3 : Cb 100000 a := h3
  have h4 : Cb 100000 b := h4
  have h5 : a.length * b.length < 1000000 := h5
  have h6 : OkR n 61 (prodR a b) := h6
  have h7 : n ≤ 64 := h7
  show wSs Γ ir35 [.val (objN n a), .val (objN n b), .un, .un, .un, .un, .un, .un, .un, .un] _ _
  conv => whnf
  refine run3 ?_
  conv => whnf
  refine ⟨_, _, rfl, rfl, ?_⟩
  refine forL_gen rowD a (fun done rest ρ => ∃ s3 s4 s5 s6 s9, ρ = [.val (objN n a), .val (objN n b), .own (rowsD (prodR done b)), s3, s4, s5, s6, .un, .un, s9]) ?_ ?_ ⟨_, _, _, _, _, rfl⟩
  · rintro ρ ⟨s3, s4, s5, s6, s9, rfl⟩
    conv => whnf
    refine ⟨_, _, rfl, rfl, ?_⟩
    conv => whnf
    refine ⟨.inl rfl, ?_⟩
    refine mk_run (n := n) (rs := prodR a b) rfl (by rw [prod_len]; exact h5) h6 fun out ho => ⟨rfl, out, ho, rfl⟩
  · rintro done ⟨p, c⟩ rest ρ nx bk he ⟨s3, s4, s5, s6, s9, rfl⟩ hnx -
    have hr : (p, c) ∈ a := by rw [he]; simp
    have hpn : p.length = n := (h1 _ hr).1
    have l1 := congrArg List.length he
    rw [List.length_append, List.length_cons] at l1
    conv => whnf
    refine ⟨_, _, rfl, rfl, ?_⟩
    refine forL_gen rowD b (fun done2 rest2 ρ => ∃ s5 s6 s9, ρ = [.val (objN n a), .val (objN n b), .own (rowsD (prodR done b ++ done2.map fun s => (List.zipWith (· + ·) p s.1, c * s.2))), .val (tupD p), .val (.int c), s5, s6, .un, .un, s9]) ?_ ?_ ⟨_, _, _, by rw [List.map_nil, List.append_nil]; rfl⟩
    · rintro ρ ⟨s5, s6, s9, rfl⟩
      refine hnx _ ⟨_, _, s5, s6, s9, by rw [prodR_snoc]⟩
    · rintro done2 ⟨q, d⟩ rest2 ρ nx2 bk2 he2 ⟨s5, s6, s9, rfl⟩ hnx2 -
      have hs : (q, d) ∈ b := by rw [he2]; simp
      have hqn : q.length = n := (h2 _ hs).1
      have l2 := congrArg List.length he2
      rw [List.length_append, List.length_cons] at l2
      conv => whnf
      rw [zipD_ints]
      refine compL_gen (fun x : Int × Int => D.tup [.int x.1, .int x.2]) (fun _ => true) (fun x => .int (x.1 + x.2)) (ρ := [.val (objN n a), .val (objN n b), .own (rowsD (prodR done b ++ done2.map fun s => (List.zipWith (· + ·) p s.1, c * s.2))), .val (tupD p), .val (.int c), .val (tupD q), .val (.int d), .un, .un, s9]) (fun x => [.val (objN n a), .val (objN n b), .own (rowsD (prodR done b ++ done2.map fun s => (List.zipWith (· + ·) p s.1, c * s.2))), .val (tupD p), .val (.int c), .val (tupD q), .val (.int d), .val (.int x.1), .val (.int x.2), s9]) (fun _ => rfl) _ _ (by rw [List.length_zip]; show 0 + min p.length q.length ≤ 1000000; omega) (fun x hx Ka Ks ha _ => ?_) ?_
      · conv => whnf
        refine ⟨fun _ => ?_, (fun z => by cases z)⟩
        conv => whnf
        exact ha rfl
      rw [List.filter_eq_self.mpr (fun _ _ => rfl), List.nil_append]
      have ez : (p.zip (q, d).fst).map (fun x : Int × Int => D.int (x.1 + x.2)) = (List.zipWith (· + ·) p q).map D.int := zw_map (· + ·) p q
      rw [ez]
      conv => whnf
      refine ⟨mulok (h3 _ hr) (h4 _ hs) (by decide), ?_⟩
      conv => whnf
      refine ⟨.inl rfl, ⟨rfl, ?_⟩, ?_⟩
      · rw [List.length_map, List.length_append, List.length_map, prod_len]
        have := Nat.mul_le_mul_right b.length (show done.length + 1 ≤ a.length by omega)
        rw [Nat.succ_mul] at this
        show _ < 1000000
        omega
      · refine hnx2 _ ⟨.val (tupD q), .val (.int d), .val (tupD (List.zipWith (· + ·) p q)), ?_⟩
        have e : rowsD (prodR done b ++ (done2 ++ [(q, d)]).map fun s => (List.zipWith (· + ·) p s.1, c * s.2)) = .lst ((prodR done b ++ done2.map fun s => (List.zipWith (· + ·) p s.1, c * s.2)).map rowD ++ [rowD (List.zipWith (· + ·) p q, c * d)]) := by
          unfold rowsD
          rw [List.map_append (f := fun s : Mono => (List.zipWith (· + ·) p s.1, c * s.2)), ← List.append_assoc, List.map_append (f := rowD)]; rfl
        rw [e]; rfl
theorem mul_run {n : Nat} {a b : List Mono} {K : Bool → D → Prop} {E : Exc → Prop} (h1 : Rn n a) (h2 : Rn n b) (h3 : Cb 100000 a) (h4 : Cb 100000 b) (h5 : a.length * b.length < 1000000) (h6 : OkR n 61 (prodR a b)) (h7 : n ≤ 64) (h : ∀ out, gatR 61 (prodR a b) out → K false (objN n out)) : (Γ 35).run [objN n a, objN n b] K E :=
  run_of (s := Γ 35) (n, a, b) rfl ⟨h1, h2, h3, h4, h5, h6, h7⟩ (fun o e ⟨e1, out, h1, h2⟩ => by subst e1 h2; exact h out h1) fun e z => z.elim

theorem add_rowI {n m B : Nat} {acc : List Mono} {p : List Int} {i : Int} (g1 : OkR n 61 acc) (g2 : Dg n m acc) (g3 : Cb B acc) (hp : p.length = n) (hb : ∀ k ∈ p, 0 ≤ k ∧ k ≤ 60) (hs : p.sum ≤ m) (hi : bnd B i) : OkR n 61 (acc ++ [(p, i)]) ∧ Dg n m (acc ++ [(p, i)]) ∧ Cb B (acc ++ [(p, i)]) ∧ rowsD (acc ++ [(p, i)]) = .lst (acc.map rowD ++ [.tup [tupD p, .int i]]) := by
  refine ⟨fun x hx => ?_, fun x hx => ?_, fun x hx => ?_, by unfold rowsD; rw [List.map_append]; rfl⟩
  · rcases List.mem_append.mp hx with z | z
    · exact g1 x z
    · rw [List.mem_singleton] at z; rw [z]; exact ⟨hp, fun k hk => ⟨(hb k hk).1, by have := (hb k hk).2; omega⟩⟩
  · rcases List.mem_append.mp hx with z | z
    · exact g2 x z
    · rw [List.mem_singleton] at z; rw [z]; exact ⟨hp, fun k hk => (hb k hk).1, hs⟩
  · rcases List.mem_append.mp hx with z | z
    · exact g3 x z
    · rw [List.mem_singleton] at z; rw [z]; exact hi
theorem val24 : VAL 24 ir24 N24 := by
  show ∀ x : Nat × Nat × Int, (x.1 ≤ 64 ∧ x.2.1 ≤ 60 ∧ (x.2.2 = 0 ∨ x.2.2 = 1 ∨ x.2.2 = 2)) → _
  rintro ⟨n, m, w⟩ ⟨h1, h2, h3⟩
  have h1 : n ≤ 64 := h1
  have h2 : m ≤ 60 := h2
  have h3 : w = 0 ∨ w = 1 ∨ w = 2 := h3
  have big : ∀ k : Nat, k ≤ 60 → (k : Int) < 2 ^ 8000 := fun k hk => by
    have e : (61 : Int) ≤ 2 ^ 8000 := by decide +kernel
    omega
  show wSs Γ ir24 [.val .tok, .val (.int n), .val (.int m), .val (.int w), .un, .un, .un, .un, .un] _ _
  conv => whnf
  refine take_run (Γ := Γ) (n := 10) rfl (by decide +kernel) fun u u0 u1 => ?_
  obtain ⟨c, rfl⟩ : ∃ c : Nat, u = c := ⟨u.toNat, by omega⟩
  conv => whnf
  refine ⟨⟨by omega, by omega⟩, ?_⟩
  rw [rngD_ints, show (1 : Int) + (c : Nat) = ((1 + c : Nat) : Int) by omega]
  refine forL_gen D.int (rgI 0 (1 + c : Nat)) (fun done rest ρ => ∃ acc s5 s7 s8, acc.length = done.length ∧ OkR n 61 acc ∧ Dg n (3 * m) acc ∧ Cb 204 acc ∧ ρ = [.val .tok, .val (.int n), .val (.int m), .val (.int w), .own (rowsD acc), s5, .un, s7, s8]) ?_ ?_ ⟨[], .un, .un, .un, rfl, (fun _ h => nomatch h), (fun _ h => nomatch h), (fun _ h => nomatch h), rfl⟩
  · rintro ρ ⟨acc, s5, s7, s8, g1, g2, g3, g4, rfl⟩
    conv => whnf
    rw [rgI_len] at g1
    exact ⟨rfl, acc, by omega, g2, g3, g4, rfl⟩
  · rintro done k rest ρ nx bk he ⟨acc, s5, s7, s8, g1, g2, g3, g4, rfl⟩ hnx -
    obtain ⟨rfl, hk⟩ := rgI_mid he
    conv => whnf
    refine ⟨⟨by omega, by omega⟩, ?_⟩
    conv => whnf
    rw [rngD_ints]
    refine compL_gen D.int (fun _ => true) (fun _ => .int 0) (ρ := [.val .tok, .val (.int n), .val (.int m), .val (.int w), .own (rowsD acc), .val (.int (done.length : Nat)), .un, s7, s8]) (fun j => [.val .tok, .val (.int n), .val (.int m), .val (.int w), .own (rowsD acc), .val (.int (done.length : Nat)), .val (.int j), s7, s8]) (fun _ => rfl) _ _ (by rw [rgI_len]; show 0 + ((n : Int) - 0).toNat ≤ 1000000; omega) (fun j hj Ka Ks ha _ => ?_) ?_
    · conv => whnf
      refine ⟨fun _ => ?_, (fun z => by cases z)⟩
      exact ha rfl
    rw [List.filter_eq_self.mpr (fun _ _ => rfl), List.nil_append, zero_map]
    have fin : ∀ (p : List Int) (s8 : VL.Slot), p.length = n → (∀ k ∈ p, 0 ≤ k ∧ k ≤ (m : Nat)) → p.sum ≤ (3 * m : Nat) → wSs Γ (.cons (.ex (.met .append (.var 4) (.cons (.tup (.cons (.blt .tuple (.cons (.var 7) .nil)) (.cons (.call 13 (.cons (.var 0) (.cons (.var 3) .nil))) .nil))) .nil)))
  .nil) [.val .tok, .val (.int n), .val (.int m), .val (.int w), .own (rowsD acc), .val (.int (done.length : Nat)), .un, .own (ilst p), s8] { nx := nx, rt := (Γ 24).post (n, m, w), bk := bk, ct := nx } (fun e _ => (Γ 24).exc (n, m, w) e) := fun p s8 hp hb hs => by
      conv => whnf
      refine ⟨.inl rfl, ?_⟩
      conv => whnf
      refine worth_run h3 fun i hi => ?_
      conv => whnf
      refine ⟨.inl rfl, ⟨rfl, by rw [List.length_map]; show _ < 1000000; omega⟩, ?_⟩
      obtain ⟨a1, a2, a3, a4⟩ := add_rowI g2 g3 g4 hp (fun k hk => ⟨(hb k hk).1, by have := (hb k hk).2; omega⟩) hs hi
      exact hnx _ ⟨acc ++ [(p, i)], _, .own (ilst p), s8, by rw [List.length_append, List.length_append, g1]; rfl, a1, a2, a3, by rw [a4]; rfl⟩
    conv => whnf
    refine ⟨fun q => ?_, fun q => ?_⟩
    · have q : (0 : Int) < (n : Nat) := of_decide_eq_true q
      conv => whnf
      refine ⟨⟨by decide, by decide⟩, ?_⟩
      rw [rngD_ints]
      have lZ : (rgI 0 3).length = 3 := rfl
      generalize rgI 0 3 = Z at *
      refine forL_gen D.int Z (fun done2 rest2 ρ => ∃ (p : List Int) (s8 : VL.Slot), p.length = n ∧ (∀ k ∈ p, 0 ≤ k ∧ k ≤ (m : Nat)) ∧ p.sum ≤ (done2.length * m : Nat) ∧ ρ = [.val .tok, .val (.int n), .val (.int m), .val (.int w), .own (rowsD acc), .val (.int (done.length : Nat)), .un, .own (ilst p), s8]) ?_ ?_ ⟨zeroP n, s8, (zero_dg n).1, fun k hk => ?_, by have := (zero_dg n).2.2; rw [List.length_nil, Nat.zero_mul]; omega, rfl⟩
      · rintro ρ ⟨p, s8, hp, hb, hs, rfl⟩
        rw [lZ] at hs
        exact fin p s8 hp hb hs
      · rintro done2 x rest2 ρ nx2 bk2 he2 ⟨p, s8, hp, hb, hs, rfl⟩ hnx2 -
        conv => whnf
        refine nat_run (Γ := Γ) (m := 14) rfl (by omega) (big m h2) fun v v0 v1 => ?_
        conv => whnf
        refine take_run (Γ := Γ) (n := 10) rfl (lim_log (k := n) (by show n ≤ 1000000; omega)) fun u u0 u1 => ?_
        obtain ⟨j, rfl⟩ : ∃ j : Nat, u = j := ⟨u.toNat, by omega⟩
        have hj : j < n := by omega
        conv => whnf
        refine ⟨.inl rfl, rfl, j, ?_, ?_⟩
        · rw [List.length_map]; exact ixNn (by rw [hp]; exact hj)
        · refine hnx2 _ ⟨p.set j v, .val (.int x), by rw [List.length_set]; exact hp, fun z hz => ?_, ?_, by unfold ilst; rw [List.map_set]; rfl⟩
          · rcases List.mem_or_eq_of_mem_set hz with q | q
            · exact hb z q
            · omega
          · rw [sum_set (by rw [hp]; exact hj), List.length_append, List.length_singleton, Nat.succ_mul]
            have := (hb _ (VL.getD_mem (p := p) (j := j) (by rw [hp]; exact hj))).1
            omega
      · unfold zeroP at hk
        rw [(List.mem_replicate.mp hk).2]; omega
    · refine fin (zeroP n) s8 (zero_dg n).1 (fun k hk => ?_) ?_
      · unfold zeroP at hk
        rw [(List.mem_replicate.mp hk).2]; omega
      · have := (zero_dg n).2.2; omega
theorem wild_run {n m : Nat} {w : Int} {K : Bool → D → Prop} {E : Exc → Prop} (h1 : n ≤ 64) (h2 : m ≤ 60) (h3 : w = 0 ∨ w = 1 ∨ w = 2) (h : ∀ rs, rs.length ≤ 6 → OkR n 61 rs → Dg n (3 * m) rs → Cb 204 rs → K true (rowsD rs)) : (Γ 24).run [.tok, .int n, .int m, .int w] K E :=
  run_of (s := Γ 24) (n, m, w) rfl ⟨h1, h2, h3⟩ (fun o e ⟨e1, rs, g1, g2, g3, g4, g5⟩ => by subst e1 g5; exact h rs g1 g2 g3 g4) fun e z => z.elim

def invR (n c : Nat) (rs : List Mono) : Prop := rs.length ≤ 2 ^ c ∧ Dg n c rs ∧ Cb (134 + 15 * c) rs
theorem invR.mono {n a b : Nat} {rs : List Mono} (h : invR n a rs) (l : a ≤ b) : invR n b rs := ⟨Nat.le_trans h.1 (Nat.pow_le_pow_right (by decide) l), h.2.1.mono l, h.2.2.mono (by omega)⟩
theorem sole_cb {n j : Nat} {f : Int} {out : List Mono} (hf : bnd 2 f) (h : gatR 61 [(unitP n j, 1), (zeroP n, f)] out) : Cb 4 out := by
  refine gat_cb (B := 2) (k := 2) h (fun r hr => ?_) (by show 2 < 4; decide)
  simp only [List.mem_cons, List.not_mem_nil, or_false] at hr
  rcases hr with rfl | rfl
  · exact (by decide : (1 : Int).natAbs < 2 ^ 2)
  · exact hf
theorem inv_mul {n c j : Nat} {f : Int} {rs s out : List Mono} (h : invR n c rs) (hc : c ≤ 8) (hj : j < n) (hf : bnd 2 f) (hs : gatR 61 [(unitP n j, 1), (zeroP n, f)] s) (ho : gatR 61 (prodR rs s) out) : invR n (c + 1) out := by
  have sl : s.length ≤ 2 := hs.2.2
  have pl : (prodR rs s).length ≤ 2 ^ (c + 1) := by
    rw [prod_len, Nat.pow_succ]
    exact Nat.mul_le_mul h.1 sl
  have p9 : 2 ^ (c + 1) ≤ 2 ^ 9 := Nat.pow_le_pow_right (by decide) (by omega)
  refine ⟨Nat.le_trans ho.2.2 pl, gat_dg ho (prod_dg h.2.1 (gat_dg hs (sole_dg hj))), ?_⟩
  refine (gat_cb (k := 11) ho (prod_cb h.2.2 (sole_cb hf hs)) ?_).mono (by omega)
  have e9 : (2 : Nat) ^ 9 = 512 := by decide
  have e11 : (2 : Nat) ^ 11 = 2048 := by decide
  omega
theorem inv_ok {n c j : Nat} {f : Int} {rs s : List Mono} (h : invR n c rs) (hc : c ≤ 8) (hj : j < n) (hn : n ≤ 64) (hf : bnd 2 f) (hs : gatR 61 [(unitP n j, 1), (zeroP n, f)] s) : Rn n rs ∧ Rn n s ∧ Cb 100000 rs ∧ Cb 100000 s ∧ rs.length * s.length < 1000000 ∧ OkR n 61 (prodR rs s) := by
  have sl : s.length ≤ 2 := hs.2.2
  have p8 : 2 ^ c ≤ 2 ^ 8 := Nat.pow_le_pow_right (by decide) hc
  have e8 : (2 : Nat) ^ 8 = 256 := by decide
  have sd := gat_dg hs (sole_dg (f := f) hj)
  refine ⟨h.2.1.rn, sd.rn, h.2.2.mono (by omega), (sole_cb hf hs).mono (by decide), ?_, (prod_dg h.2.1 sd).ok (by omega)⟩
  have := Nat.mul_le_mul h.1 sl
  omega
theorem val25 : VAL 25 ir25 N25 := by
  show ∀ n : Nat, (1 ≤ n ∧ n ≤ 64) → _
  rintro n ⟨h0, h1⟩
  show wSs Γ ir25 [.val .tok, .val (.int n), .un, .un, .un, .un, .un, .un, .un] _ _
  conv => whnf
  refine ⟨⟨by omega, by omega⟩, ?_⟩
  rw [rngD_ints]
  conv => whnf
  refine compL_gen D.int (fun _ => true) (fun _ => .int 0) (ρ := [.val .tok, .val (.int n), .un, .un, .un, .un, .un, .un, .un]) (fun j => [.val .tok, .val (.int n), .val (.int j), .un, .un, .un, .un, .un, .un]) (fun _ => rfl) _ _ (by rw [rgI_len]; show 0 + ((n : Int) - 0).toNat ≤ 1000000; omega) (fun j hj Ka Ks ha _ => ?_) ?_
  · conv => whnf
    refine ⟨fun _ => ?_, (fun z => by cases z)⟩
    exact ha rfl
  rw [List.filter_eq_self.mpr (fun _ _ => rfl), List.nil_append, zero_map]
  conv => whnf
  refine ⟨⟨by decide, by decide +kernel⟩, ?_⟩
  have hT : bnd 134 ((10 : Int) ^ (Int.toNat 40)) := by
    show ((10 : Int) ^ 40).natAbs < 2 ^ 134
    decide +kernel
  generalize (10 : Int) ^ (Int.toNat 40) = T at *
  conv => whnf
  refine VL.pick_run (Γ := Γ) (m := 11) rfl (by simp) (by show 5 ≤ 1000000; decide) fun d hd => ?_
  obtain ⟨i, rfl, hi⟩ : ∃ i : Int, d = .int i ∧ bnd 134 i := by
    have : d ∈ ([1, -1, 2, -7, T] : List Int).map D.int := hd
    obtain ⟨i, hi, rfl⟩ := List.mem_map.mp this
    refine ⟨i, rfl, ?_⟩
    simp only [List.mem_cons, List.not_mem_nil, or_false] at hi
    rcases hi with rfl | rfl | rfl | rfl | rfl
    · exact (by decide : (1 : Int).natAbs < 2 ^ 134)
    · exact (by decide : (-1 : Int).natAbs < 2 ^ 134)
    · exact (by decide : (2 : Int).natAbs < 2 ^ 134)
    · exact (by decide : (-7 : Int).natAbs < 2 ^ 134)
    · exact hT
  clear hd
  conv => whnf
  refine ⟨⟨by decide, by decide⟩, ?_⟩
  rw [rngD_ints]
  have lZ : (rgI 0 3).length = 3 := rfl
  generalize rgI 0 3 = Z at *
  refine forL_gen D.int Z (fun done rest ρ => ∃ rs s4 s5 s6 s7 s8, invR n (3 * done.length) rs ∧ ρ = [.val .tok, .val (.int n), .un, .own (rowsD rs), s4, s5, s6, s7, s8]) ?_ ?_ ⟨[(zeroP n, i)], _, _, _, _, _, ⟨Nat.le_refl 1, fun r hr => ?_, fun r hr => ?_⟩, rfl⟩
  · rintro ρ ⟨rs, s4, s5, s6, s7, s8, h, rfl⟩
    rw [lZ] at h
    conv => whnf
    exact ⟨rfl, rs, h.1, h.2.1, h.2.2.mono (by decide), rfl⟩
  · rintro done k rest ρ nx bk he ⟨rs, s4, s5, s6, s7, s8, h, rfl⟩ hnx -
    have hl := congrArg List.length he
    rw [List.length_append, List.length_cons] at hl
    conv => whnf
    refine take_run (Γ := Γ) (n := 10) rfl (lim_log (k := n) (by show n ≤ 1000000; omega)) fun u u0 u1 => ?_
    obtain ⟨j, rfl⟩ : ∃ j : Nat, u = j := ⟨u.toNat, by omega⟩
    have hj : j < n := by omega
    conv => whnf
    refine take_run (Γ := Γ) (n := 10) rfl (by decide +kernel) fun u u0 u1 => ?_
    obtain ⟨sz, rfl⟩ : ∃ j : Nat, u = j := ⟨u.toNat, by omega⟩
    conv => whnf
    refine take_run (Γ := Γ) (n := 10) rfl (by decide +kernel) fun gap _ _ => ?_
    conv => whnf
    refine ⟨⟨by omega, by omega⟩, ?_⟩
    rw [rngD_ints]
    refine forL_gen D.int (rgI 0 (sz : Nat)) (fun done2 rest2 ρ => ∃ rs s8, invR n (3 * done.length + done2.length) rs ∧ ρ = [.val .tok, .val (.int n), .un, .own (rowsD rs), .val (.int k), .val (.int (j : Nat)), .val (.int (sz : Nat)), .val (.int gap), s8]) ?_ ?_ ⟨rs, s8, h, rfl⟩
    · rintro ρ ⟨rs, s8, h, rfl⟩
      rw [rgI_len] at h
      exact hnx _ ⟨rs, _, _, _, _, s8, h.mono (by rw [List.length_append, List.length_singleton]; omega), rfl⟩
    · rintro done2 x rest2 ρ nx2 bk2 he2 ⟨rs, s8, h, rfl⟩ hnx2 -
      obtain ⟨rfl, hx⟩ := rgI_mid he2
      conv => whnf
      refine ⟨fun _ => ?_, fun _ => ?_⟩
      · conv => whnf
        have hf : bnd 2 (-((done2.length : Nat) : Int)) := by
          show _ < 4
          omega
        refine call17 h1 hj fun s hs => ?_
        conv => whnf
        refine ⟨.inl rfl, ?_⟩
        obtain ⟨k1, k2, k3, k4, k5, k6⟩ := inv_ok h (by omega) hj h1 hf hs
        refine call16 k1 k2 k3 k4 k5 k6 h1 fun out ho => ?_
        exact hnx2 _ ⟨out, .val (.int (done2.length : Nat)), by rw [List.length_append, List.length_singleton, ← Nat.add_assoc]; exact inv_mul h (by omega) hj hf hs ho, rfl⟩
      · exact hnx2 _ ⟨rs, .val (.int (done2.length : Nat)), h.mono (by rw [List.length_append]; omega), rfl⟩
  · rw [List.mem_singleton] at hr
    rw [hr]
    exact dg_mono (zero_dg n) (by omega)
  · rw [List.mem_singleton] at hr
    rw [hr]
    exact hi
theorem rooted_run {n : Nat} {K : Bool → D → Prop} {E : Exc → Prop} (h0 : 1 ≤ n) (h1 : n ≤ 64) (h : ∀ rs, rs.length ≤ 512 → Dg n 9 rs → Cb 270 rs → K true (rowsD rs)) : (Γ 25).run [.tok, .int n] K E :=
  run_of (s := Γ 25) (show Nat from n) rfl ⟨h0, h1⟩ (fun o e ⟨e1, rs, g1, g2, g3, g4⟩ => by subst e1 g4; exact h rs g1 g2 g3) fun e z => z.elim

theorem bnd_ifz {p : Prop} [Decidable p] : bnd 1 (if p then (1 : Int) else 0) := by
  by_cases z : p
  · rw [if_pos z]; exact (by decide : (1 : Int).natAbs < 2 ^ 1)
  · rw [if_neg z]; exact (by decide : (0 : Int).natAbs < 2 ^ 1)
theorem val26 : VAL 26 ir26 N26 := by
  show ∀ n : Nat, (1 ≤ n ∧ n ≤ 64) → _
  rintro n ⟨h0, h1⟩
  show wSs Γ ir26 [.val .tok, .val (.int n), .un, .un, .un, .un, .un, .un, .un, .un, .un] _ _
  conv => whnf
  refine take_run (Γ := Γ) (n := 10) rfl (lim_log (k := n) (by show n ≤ 1000000; omega)) fun u u0 u1 => ?_
  obtain ⟨j, rfl⟩ : ∃ j : Nat, u = j := ⟨u.toNat, by omega⟩
  have hj : j < n := by omega
  conv => whnf
  refine VL.pick_run (Γ := Γ) (m := 11) rfl (by simp) (by show 5 ≤ 1000000; decide) fun d hd => ?_
  obtain ⟨sz, rfl, hsz⟩ : ∃ t : Nat, d = .int t ∧ t ≤ 44 := by
    have : d ∈ ([1, 5, 17, 43, 44] : List Int).map D.int := hd
    obtain ⟨t, ht, rfl⟩ := List.mem_map.mp this
    simp only [List.mem_cons, List.not_mem_nil, or_false] at ht
    exact ⟨t.toNat, by congr 1; omega, by omega⟩
  clear hd
  conv => whnf
  refine VL.pick_run (Γ := Γ) (m := 11) rfl (by simp) (by show 3 ≤ 1000000; decide) fun d hd => ?_
  obtain ⟨pw, rfl, hpw⟩ : ∃ t : Nat, d = .int t ∧ t ≤ 16 := by
    have : d ∈ ([0, 1, 16] : List Int).map D.int := hd
    obtain ⟨t, ht, rfl⟩ := List.mem_map.mp this
    simp only [List.mem_cons, List.not_mem_nil, or_false] at ht
    exact ⟨t.toNat, by congr 1; omega, by omega⟩
  clear hd
  conv => whnf
  refine ⟨⟨by omega, by omega⟩, ?_⟩
  rw [rngD_ints]
  conv => whnf
  refine compL_gen D.int (fun _ => true) (fun _ => .int 0) (ρ := [.val .tok, .val (.int n), .val (.int (j : Nat)), .val (.int (sz : Nat)), .val (.int (pw : Nat)), .un, .un, .un, .un, .un, .un]) (fun x => [.val .tok, .val (.int n), .val (.int (j : Nat)), .val (.int (sz : Nat)), .val (.int (pw : Nat)), .val (.int x), .un, .un, .un, .un, .un]) (fun _ => rfl) _ _ (by rw [rgI_len]; show 0 + ((pw : Int) - 0).toNat ≤ 1000000; omega) (fun x hx Ka Ks ha _ => ?_) ?_
  · conv => whnf
    refine ⟨fun _ => ?_, (fun z => by cases z)⟩
    exact ha rfl
  rw [List.filter_eq_self.mpr (fun _ _ => rfl), List.nil_append, zero_map]
  conv => whnf
  have lz : (zeroP pw).length = pw := (zero_dg pw).1
  refine ⟨by rw [List.length_map, lz]; show pw + 1 ≤ 1000000; omega, ?_⟩
  conv => whnf
  refine ⟨⟨by decide, by decide, by omega, by omega⟩, ?_⟩
  rw [rngD_ints]
  have lR : (rgI 1 ((sz : Int) + 1)).length = sz := by rw [rgI_len]; omega
  have mR : ∀ x ∈ rgI 1 ((sz : Int) + 1), 1 ≤ x ∧ x ≤ 44 := fun x hx => by
    unfold rgI at hx
    obtain ⟨k, hk, rfl⟩ := List.mem_map.mp hx
    have := List.mem_range.mp hk
    omega
  generalize rgI 1 ((sz : Int) + 1) = Z at *
  refine forL_gen D.int Z (fun done rest ρ => ∃ (ps : List Int) (s5 s7 s8 : VL.Slot), ps.length = pw + 1 + done.length ∧ (∀ z ∈ ps, bnd (1 + 7 * done.length) z) ∧ ρ = [.val .tok, .val (.int n), .val (.int (j : Nat)), .val (.int (sz : Nat)), .val (.int (pw : Nat)), s5, .own (ilst ps), s7, s8, .un, .un]) ?_ ?_ ⟨zeroP pw ++ [1], _, _, _, by rw [List.length_append, lz]; rfl, fun z hz => ?_, by unfold ilst; rw [List.map_append]; rfl⟩
  · rintro ρ ⟨ps, s5, s7, s8, hl, hb, rfl⟩
    rw [lR] at hl
    have hbz : ∀ z ∈ ps, bnd 330 z := fun z hz => bnd_mono (hb z hz) (by rw [lR]; omega)
    conv => whnf
    refine ⟨.inl rfl, ?_⟩
    conv => whnf
    refine ⟨⟨by omega, by rw [List.length_map]; omega⟩, ?_⟩
    rw [List.length_map, rngD_ints]
    refine forL_gen D.int (rgI 0 (ps.length : Nat)) (fun done rest ρ => ∃ acc s5, acc.length ≤ done.length ∧ OkR n 61 acc ∧ Cb 330 acc ∧ ρ = [.val .tok, .val (.int n), .val (.int (j : Nat)), .val (.int (sz : Nat)), .val (.int (pw : Nat)), s5, .own (ilst ps), s7, s8, .own (rowsD acc), .un]) ?_ ?_ ⟨[], s5, Nat.le_refl _, (fun _ h => nomatch h), (fun _ h => nomatch h), rfl⟩
    · rintro ρ ⟨acc, s5, g1, g2, g3, rfl⟩
      rw [rgI_len] at g1
      conv => whnf
      exact ⟨rfl, acc, by omega, g2, g3, rfl⟩
    · rintro done x rest ρ nx bk he ⟨acc, s5, g1, g2, g3, rfl⟩ hnx -
      obtain ⟨rfl, hx⟩ := rgI_mid he
      conv => whnf
      refine ⟨.inl rfl, _, at_int (p := ps) (j := done.length) hx, ?_⟩
      conv => whnf
      refine ⟨fun _ => ?_, fun _ => ?_⟩
      · conv => whnf
        refine ⟨⟨by omega, by omega⟩, ?_⟩
        conv => whnf
        rw [rngD_ints]
        refine compL_gen D.int (fun _ => true) (fun k => .int ((done.length : Nat) * (if decide (k = ((j : Nat) : Int)) then 1 else 0))) (ρ := [.val .tok, .val (.int n), .val (.int (j : Nat)), .val (.int (sz : Nat)), .val (.int (pw : Nat)), .val (.int (done.length : Nat)), .own (ilst ps), s7, s8, .own (rowsD acc), .un]) (fun k => [.val .tok, .val (.int n), .val (.int (j : Nat)), .val (.int (sz : Nat)), .val (.int (pw : Nat)), .val (.int (done.length : Nat)), .own (ilst ps), s7, s8, .own (rowsD acc), .val (.int k)]) (fun _ => rfl) _ _ (by rw [rgI_len]; show 0 + ((n : Int) - 0).toNat ≤ 1000000; omega) (fun k hk Ka Ks ha _ => ?_) ?_
        · conv => whnf
          refine ⟨fun _ => ?_, (fun z => by cases z)⟩
          conv => whnf
          refine ⟨mulok (a := 6) (show bnd 6 ((done.length : Nat) : Int) from bnd_nat (by show done.length < 64; omega)) bnd_ifz (by decide), ?_⟩
          exact ha rfl
        rw [List.filter_eq_self.mpr (fun _ _ => rfl), List.nil_append]
        have ep : (rgI 0 (n : Nat)).map (fun k => D.int ((done.length : Nat) * (if decide (k = ((j : Nat) : Int)) then 1 else 0))) = ((rgI 0 (n : Nat)).map fun k => ((done.length : Nat) : Int) * (if decide (k = ((j : Nat) : Int)) then 1 else 0)).map D.int := by
          rw [List.map_map]; rfl
        rw [ep]
        have lp : ((rgI 0 (n : Nat)).map fun k => ((done.length : Nat) : Int) * (if decide (k = ((j : Nat) : Int)) then 1 else 0)).length = n := by rw [List.length_map, rgI_len]; omega
        have bp : ∀ z ∈ (rgI 0 (n : Nat)).map fun k => ((done.length : Nat) : Int) * (if decide (k = ((j : Nat) : Int)) then 1 else 0), 0 ≤ z ∧ z ≤ 60 := fun z hz => by
          obtain ⟨k, _, rfl⟩ := List.mem_map.mp hz
          by_cases y : decide (k = ((j : Nat) : Int)) = true
          · rw [if_pos y]; omega
          · rw [if_neg y]; omega
        generalize ((rgI 0 (n : Nat)).map fun k => ((done.length : Nat) : Int) * (if decide (k = ((j : Nat) : Int)) then 1 else 0)) = p at *
        conv => whnf
        refine ⟨.inl rfl, _, at_int (p := ps) (j := done.length) hx, ?_⟩
        conv => whnf
        refine ⟨.inl rfl, ⟨rfl, by rw [List.length_map]; show _ < 1000000; omega⟩, ?_⟩
        refine hnx _ ⟨acc ++ [(p, ps.getD done.length 0)], .val (.int (done.length : Nat)), by rw [List.length_append, List.length_append]; show _ + 1 ≤ _ + 1; omega, fun r hr => ?_, fun r hr => ?_, by unfold rowsD; rw [List.map_append]; rfl⟩
        · rcases List.mem_append.mp hr with z | z
          · exact g2 r z
          · rw [List.mem_singleton] at z; rw [z]; exact ⟨lp, fun k hk => ⟨(bp k hk).1, by have := (bp k hk).2; omega⟩⟩
        · rcases List.mem_append.mp hr with z | z
          · exact g3 r z
          · rw [List.mem_singleton] at z; rw [z]; exact hbz _ (VL.getD_mem hx)
      · exact hnx _ ⟨acc, .val (.int (done.length : Nat)), by rw [List.length_append]; omega, g2, g3, rfl⟩
  · rintro done x rest ρ nx bk he ⟨ps, s5, s7, s8, hl, hb, rfl⟩ hnx -
    have hx := mR x (by rw [he]; simp)
    have hlz := congrArg List.length he
    rw [List.length_append, List.length_cons] at hlz
    conv => whnf
    refine ⟨by show 1 + (ps.map D.int).length ≤ 1000000; rw [List.length_map]; omega, ?_⟩
    conv => whnf
    refine ⟨.inl rfl, ?_⟩
    conv => whnf
    refine ⟨⟨by omega, by rw [List.length_map]; omega⟩, ?_⟩
    rw [List.length_map, rngD_ints]
    have bx : bnd 6 x := by show _ < 64; omega
    refine forL_gen D.int (rgI 0 (ps.length : Nat)) (fun done2 rest2 ρ => ∃ (qs : List Int) (s5 : VL.Slot), qs.length = ps.length + 1 ∧ (∀ i, done2.length ≤ i → i < ps.length + 1 → bnd (1 + 7 * done.length) (qs.getD i 0)) ∧ (∀ z ∈ qs, bnd (1 + 7 * done.length + 7) z) ∧ ρ = [.val .tok, .val (.int n), .val (.int (j : Nat)), .val (.int (sz : Nat)), .val (.int (pw : Nat)), s5, .own (ilst ps), .val (.int x), .own (ilst qs), .un, .un]) ?_ ?_ ⟨0 :: ps, s5, rfl, fun i _ hi => ?_, fun z hz => ?_, rfl⟩
    · rintro ρ ⟨qs, s5, q1, q2, q3, rfl⟩
      conv => whnf
      refine ⟨.inl rfl, ?_⟩
      refine hnx _ ⟨qs, s5, _, _, by rw [q1, hl, List.length_append]; rfl, fun z hz => bnd_mono (q3 z hz) (by rw [List.length_append, List.length_singleton]; omega), rfl⟩
    · rintro done2 y rest2 ρ nx2 bk2 he2 ⟨qs, s5, q1, q2, q3, rfl⟩ hnx2 -
      obtain ⟨rfl, hy⟩ := rgI_mid he2
      conv => whnf
      refine ⟨.inl rfl, rfl, _, at_int (p := qs) (j := done2.length) (by omega), ?_⟩
      conv => whnf
      refine ⟨.inl rfl, _, at_int (p := ps) (j := done2.length) hy, ?_⟩
      conv => whnf
      have by1 := hb _ (VL.getD_mem (p := ps) (j := done2.length) hy)
      refine ⟨mulok bx by1 (by omega), ?_⟩
      conv => whnf
      refine ⟨.inl rfl, rfl, done2.length, ?_, ?_⟩
      · rw [List.length_map]; exact ixNn (by omega)
      · refine hnx2 _ ⟨qs.set done2.length (qs.getD done2.length 0 - x * ps.getD done2.length 0), .val (.int (done2.length : Nat)), by rw [List.length_set]; exact q1, fun i hi hi2 => ?_, fun z hz => ?_, by unfold ilst; rw [List.map_set]; rfl⟩
        · rw [List.length_append, List.length_singleton] at hi
          rw [getD_set (by omega), if_neg (by omega)]
          exact q2 i (by omega) hi2
        · rcases List.mem_or_eq_of_mem_set hz with q | q
          · exact q3 z q
          · rw [q]
            exact bnd_sub (a := 1 + 7 * done.length + 6) (bnd_mono (q2 done2.length (Nat.le_refl _) (by omega)) (by omega)) (bnd_mono (bnd_mul bx by1) (by omega))
    · have hg : (0 :: ps).getD i 0 ∈ (0 :: ps) := VL.getD_mem (by rw [List.length_cons]; exact hi)
      rcases List.mem_cons.mp hg with q | q
      · rw [q]; exact Nat.two_pow_pos _
      · exact hb _ q
    · rcases List.mem_cons.mp hz with q | q
      · rw [q]; exact Nat.two_pow_pos _
      · exact bnd_mono (hb _ q) (by omega)
  · rcases List.mem_append.mp hz with q | q
    · unfold zeroP at q
      rw [(List.mem_replicate.mp q).2]; exact (by decide : (0 : Int).natAbs < 2 ^ 1)
    · rw [List.mem_singleton] at q
      rw [q]; exact (by decide : (1 : Int).natAbs < 2 ^ 1)
theorem long_run {n : Nat} {K : Bool → D → Prop} {E : Exc → Prop} (h0 : 1 ≤ n) (h1 : n ≤ 64) (h : ∀ rs, rs.length ≤ 61 → OkR n 61 rs → Cb 330 rs → K true (rowsD rs)) : (Γ 26).run [.tok, .int n] K E :=
  run_of (s := Γ 26) (show Nat from n) rfl ⟨h0, h1⟩ (fun o e ⟨e1, rs, g1, g2, g3, g4⟩ => by subst e1 g4; exact h rs g1 g2 g3) fun e z => z.elim

theorem items_run {n : Nat} {w : Int} {K : Bool → D → Prop} {E : Exc → Prop} (h1 : n ≤ 64) (h2 : 0 ≤ w) (h3 : w ≤ 6) (h : ∀ rs, okI n rs → K true (rowsD rs)) : (Γ 28).run [.tok, .int n, .int w] K E :=
  run_of (s := Γ 28) (n, w) rfl ⟨h1, h2, h3⟩ (fun o e ⟨e1, rs, g1, g2⟩ => by subst e1 g2; exact h rs g1) fun e z => z.elim
theorem cst_row (n : Nat) (v : Int) : ((rgI 0 (n : Nat)).map fun _ => D.int v) = (List.replicate n v).map D.int := by
  unfold rgI
  rw [List.map_map, show ((n : Int) - 0).toNat = n by omega]
  refine List.ext_getElem? fun i => ?_
  rw [List.getElem?_map, List.getElem?_map, List.getElem?_replicate]
  by_cases h : i < n
  · rw [List.getElem?_range h, if_pos h]; rfl
  · rw [List.getElem?_eq_none (by simp; omega), if_neg h]; rfl
def irRoots : VSs := (.cons (.asg (.nm 5) (.call 25 (.cons (.var 0) (.cons (.var 1) .nil))))
  (.cons (.ifS (.tv (.cmp .Eq (.var 2) (.cst (.int 3)))) (.cons (.asg (.nm 5) (.bin .Add (.var 5) (.call 25 (.cons (.var 0) (.cons (.var 1) .nil)))))
  .nil) .nil)
  (.cons (.ifS (.tand (.tv (.cmp .Eq (.var 2) (.cst (.int 4)))) (.tv (.cmp .Lt (.var 1) (.cst (.int 6))))) (.cons (.asg (.nm 5) (.call 16 (.cons (.var 5) (.cons (.call 24 (.cons (.var 0) (.cons (.var 1) (.cons (.cst (.int 3)) (.cons (.cst (.int 0)) .nil))))) .nil))))
  .nil) .nil)
  (.cons (.ret (.var 5))
  .nil))))
theorem roots_it {n : Nat} {w : Int} (h0 : 1 ≤ n) (h1 : n ≤ 64) : wSs Γ irRoots [.val .tok, .val (.int n), .val (.int w), .un, .un, .un] { nx := fun _ => (Γ 28).post (n, w) false .non, rt := (Γ 28).post (n, w) } (fun e _ => (Γ 28).exc (n, w) e) := by
  have m67 : ∀ a : Nat, a ≤ 1024 → a * (n + 3) ≤ 70000 := fun a h => by
    have := Nat.mul_le_mul h (show n + 3 ≤ 67 by omega)
    omega
  conv => whnf
  refine rooted_run h0 h1 fun rs g1 g2 g3 => ?_
  conv => whnf
  refine ⟨fun q => ?_, fun q => ?_⟩
  · obtain rfl : w = 3 := of_decide_eq_true q
    conv => whnf
    refine rooted_run h0 h1 fun rs2 k1 k2 k3 => ?_
    have e : D.lst (rs.map rowD ++ rs2.map rowD) = rowsD (rs ++ rs2) := by unfold rowsD; rw [List.map_append]
    conv => whnf
    refine ⟨.inl rfl, ?_⟩
    conv => whnf
    refine ⟨by rw [List.length_map, List.length_map]; show _ ≤ 1000000; omega, ?_⟩
    conv => whnf
    refine ⟨fun q => absurd q (by decide), fun _ => ?_⟩
    refine ⟨(fun z => by cases z), fun _ => ?_⟩
    conv => whnf
    refine ⟨rfl, rs ++ rs2, ⟨fun r hr => ?_, fun r hr => ?_, by rw [List.length_append]; omega, ?_⟩, e⟩
    · rcases List.mem_append.mp hr with z | z
      · exact g2.ok (by decide) r z
      · exact k2.ok (by decide) r z
    · rcases List.mem_append.mp hr with z | z
      · exact bnd_mono (g3 r z) (by decide)
      · exact bnd_mono (k3 r z) (by decide)
    · exact m67 _ (by rw [List.length_append]; omega)
  · have fin : ∀ rs, okI n rs → wSs Γ (.cons (.ret (.var 5)) .nil) [.val .tok, .val (.int n), .val (.int w), .un, .un, .own (rowsD rs)] { nx := fun _ => (Γ 28).post (n, w) false .non, rt := (Γ 28).post (n, w) } (fun e _ => (Γ 28).exc (n, w) e) := fun rs h => by
      conv => whnf
      exact ⟨rfl, rs, h, rfl⟩
    have base : okI n rs := ⟨g2.ok (by decide), g3.mono (by decide), by omega, m67 _ (by omega)⟩
    conv => whnf
    refine ⟨fun q => ?_, fun q => ?_⟩
    · conv => whnf
      refine ⟨fun q => ?_, fun q => fin rs base⟩
      have hn : n < 6 := by have := of_decide_eq_true q; omega
      conv => whnf
      refine wild_run h1 (m := 3) (by decide) (w := 0) (.inl rfl) fun ws k1 k2 k3 k4 => ?_
      conv => whnf
      refine ⟨.inl rfl, ?_⟩
      have pd := prod_dg g2 k3
      have pl : (prodR rs ws).length ≤ 3072 := by
        rw [prod_len]
        have := Nat.mul_le_mul g1 k1
        omega
      refine call16 g2.rn k3.rn (g3.mono (by decide)) (k4.mono (by decide)) (by rw [← prod_len]; omega) (pd.ok (by decide)) h1 fun out ho => ?_
      have ol := ho.2.2
      refine fin out ⟨ho.ok (pd.ok (by decide)), (gat_cb (k := 12) ho (prod_cb g3 k4) (by show _ < 4096; omega)).mono (by decide), by omega, ?_⟩
      have := Nat.mul_le_mul (show out.length ≤ 3072 by omega) (show n + 3 ≤ 8 by omega)
      omega
    · refine ⟨(fun z => by cases z), fun _ => fin rs base⟩
theorem val28 : VAL 28 ir28 N28 := by
  show ∀ x : Nat × Int, (x.1 ≤ 64 ∧ 0 ≤ x.2 ∧ x.2 ≤ 6) → _
  rintro ⟨n, w⟩ ⟨h1, h2, h3⟩
  have h1 : n ≤ 64 := h1
  have h2 : 0 ≤ w := h2
  have h3 : w ≤ 6 := h3
  have hw3 : ∀ rs : List Mono, rs.length ≤ 6 → OkR n 61 rs → Cb 204 rs → okI n rs := fun rs a b c => ⟨b, c.mono (by decide), by omega, by
    have := Nat.mul_le_mul a (show n + 3 ≤ 67 by omega)
    omega⟩
  have wildA : ∀ nxt, wSs Γ (.cons (.ret (.call 24 (.cons (.var 0) (.cons (.var 1) (.cons (.cst (.int 3)) (.cons (.call 10 (.cons (.var 0) (.cons (.cst (.int 3)) .nil))) .nil)))))) .nil) [.val .tok, .val (.int n), .val (.int w), .un, .un, .un] { nx := nxt, rt := (Γ 28).post (n, w) } (fun e _ => (Γ 28).exc (n, w) e) := fun nxt => by
    conv => whnf
    refine take_run (Γ := Γ) (n := 10) rfl (by decide +kernel) fun u u0 u1 => ?_
    conv => whnf
    refine wild_run h1 (m := 3) (by decide) (by omega) fun ws k1 k2 k3 k4 => ?_
    exact ⟨rfl, ws, hw3 ws k1 k2 k4, rfl⟩
  show wSs Γ ir28 [.val .tok, .val (.int n), .val (.int w), .un, .un, .un] _ _
  conv => whnf
  refine ⟨fun _ => ⟨fun _ => wildA _, fun z => by cases z⟩, fun q0 => ?_⟩
  conv => whnf
  refine ⟨fun _ => wildA _, fun qn => ?_⟩
  have n1 : 1 ≤ n := by have := of_decide_eq_false qn; omega
  conv => whnf
  refine ⟨fun q => ?_, fun q1 => ?_⟩
  · conv => whnf
    refine wild_run h1 (m := 60) (by decide) (w := 0) (.inl rfl) fun ws k1 k2 k3 k4 => ?_
    exact ⟨rfl, ws, hw3 ws k1 k2 k4, rfl⟩
  conv => whnf
  refine ⟨fun q => ?_, fun q2 => ?_⟩
  · conv => whnf
    refine long_run n1 h1 fun ws k1 k2 k3 => ?_
    exact ⟨rfl, ws, ⟨k2, k3.mono (by decide), by omega, by
      have := Nat.mul_le_mul k1 (show n + 3 ≤ 67 by omega)
      show ws.length * (n + 3) ≤ 70000
      omega⟩, rfl⟩
  conv => whnf
  refine ⟨fun q => ?_, fun q6 => roots_it n1 h1⟩
  conv => whnf
  refine ⟨⟨by decide, by decide +kernel⟩, ?_⟩
  have hT : (10 : Int) ^ (Int.toNat 59) < 2 ^ 200 := by decide +kernel
  have hlog : ((10 : Int) ^ (Int.toNat 59)).natAbs.log2 < 9000 := by decide +kernel
  generalize (10 : Int) ^ (Int.toNat 59) = T at *
  conv => whnf
  refine take_run (Γ := Γ) (n := 10) rfl hlog fun u u0 u1 => ?_
  have hu : bnd 204 (1 + u) := by
    show (1 + u).natAbs < 2 ^ 204
    have e : (2 : Nat) ^ 204 = 2 ^ 200 * 16 := by decide
    have e2 : (2 : Int) ^ 200 = ((2 ^ 200 : Nat) : Int) := by decide +kernel
    have e3 : 0 < (2 : Nat) ^ 200 := by decide
    rw [e2] at hT
    rw [e]
    generalize (2 : Nat) ^ 200 = P at *
    omega
  conv => whnf
  refine ⟨⟨by omega, by omega⟩, ?_⟩
  rw [rngD_ints]
  conv => whnf
  refine compL_gen D.int (fun _ => true) (fun _ => .int 1) (ρ := [.val .tok, .val (.int n), .val (.int w), .val (.int (1 + u)), .un, .un]) (fun k => [.val .tok, .val (.int n), .val (.int w), .val (.int (1 + u)), .val (.int k), .un]) (fun _ => rfl) _ _ (by rw [rgI_len]; show 0 + ((n : Int) - 0).toNat ≤ 1000000; omega) (fun k hk Ka Ks ha _ => ?_) ?_
  · conv => whnf
    refine ⟨fun _ => ?_, (fun z => by cases z)⟩
    exact ha rfl
  rw [List.filter_eq_self.mpr (fun _ _ => rfl), List.nil_append, cst_row]
  conv => whnf
  refine ⟨⟨by omega, by omega⟩, ?_⟩
  conv => whnf
  rw [rngD_ints]
  refine compL_gen D.int (fun _ => true) (fun _ => .int 2) (ρ := [.val .tok, .val (.int n), .val (.int w), .val (.int (1 + u)), .un, .un]) (fun k => [.val .tok, .val (.int n), .val (.int w), .val (.int (1 + u)), .val (.int k), .un]) (fun _ => rfl) _ _ (by rw [rgI_len]; show 0 + ((n : Int) - 0).toNat ≤ 1000000; omega) (fun k hk Ka Ks ha _ => ?_) ?_
  · conv => whnf
    refine ⟨fun _ => ?_, (fun z => by cases z)⟩
    exact ha rfl
  rw [List.filter_eq_self.mpr (fun _ _ => rfl), List.nil_append, cst_row]
  conv => whnf
  refine ⟨rfl, [(List.replicate n 1, 1 + u), (List.replicate n 2, -(1 + u))], hw3 _ (by show 2 ≤ 6; decide) (fun r hr => ?_) (fun r hr => ?_), rfl⟩
  · simp only [List.mem_cons, List.not_mem_nil, or_false] at hr
    rcases hr with rfl | rfl
    · exact ⟨List.length_replicate, fun k hk => by rw [(List.mem_replicate.mp hk).2]; exact ⟨by decide, by decide⟩⟩
    · exact ⟨List.length_replicate, fun k hk => by rw [(List.mem_replicate.mp hk).2]; exact ⟨by decide, by decide⟩⟩
  · simp only [List.mem_cons, List.not_mem_nil, or_false] at hr
    rcases hr with rfl | rfl
    · exact hu
    · show (-(1 + u)).natAbs < 2 ^ 204
      rw [Int.natAbs_neg]; exact hu

theorem sum60 : ∀ {p : List Int}, (∀ k ∈ p, 0 ≤ k ∧ k ≤ 60) → 0 ≤ p.sum ∧ p.sum ≤ 60 * (p.length : Nat)
  | [], _ => ⟨Int.le_refl _, Int.le_refl _⟩
  | k :: p, h => by
    have := sum60 (p := p) fun z hz => h z (List.mem_cons_of_mem _ hz)
    have hk := h k List.mem_cons_self
    rw [List.sum_cons, List.length_cons]
    omega
theorem part60 {n : Nat} {x p : List Int} (hn : n ≤ 64) (h : p.length = n ∧ TS.Bd 61 p) (hx : ∀ a ∈ x, bnd 6 a) (k : Nat) : bnd 24000 (ev (x.take k) (p.take k)) := by
  have hp : ∀ z ∈ p.take k, 0 ≤ z ∧ z ≤ 60 := fun z hz => by
    have := h.2 z (List.mem_of_mem_take hz)
    omega
  have h1 := ev_bnd (A := 6) (x := x.take k) (p := p.take k) (fun a ha => hx a (List.mem_of_mem_take ha)) fun z hz => (hp z hz).1
  have s := sum60 hp
  have hl : (p.take k).length ≤ 64 := by rw [List.length_take, h.1]; omega
  have : (p.take k).sum.toNat ≤ 3840 := by omega
  exact bnd_mono h1 (by omega)
theorem val18 : VAL 18 ir18 N18 := by
  show ∀ x : Nat × List Mono × List Nat, (gq x.1 5000 x.2.1 ∧ x.2.2.length = x.1 ∧ ∀ t ∈ x.2.2, t ≤ 60) → _
  rintro ⟨n, rs, ts⟩ ⟨h1, h2, h3⟩
  have h1 : gq n 5000 rs := h1
  have h2 : ts.length = n := h2
  have h3 : ∀ t ∈ ts, t ≤ 60 := h3
  have hn := h1.1
  have h5 : (natI ts).length = n := by unfold natI; rw [List.length_map]; exact h2
  have h6 : ∀ s ∈ natI ts, bnd 6 s := fun s hs => by
    obtain ⟨t, ht, rfl⟩ := List.mem_map.mp hs
    exact nat_bnd (by have := h3 t ht; omega)
  show wSs Γ ir18 [.val (rowsD rs), .val (ilst (natI ts)), .un, .un, .un, .un, .un] { nx := fun _ => (Γ 18).post (n, rs, ts) false .non, rt := fun o d => o = false ∧ d = .int (valP rs (natI ts)) } _
  generalize natI ts = xs at *
  conv => whnf
  refine forL_gen rowD rs (fun done rest ρ => ∃ s3 s4 s5 s6, ρ = [.val (rowsD rs), .val (ilst xs), .val (.int (valP done xs)), s3, s4, s5, s6]) ?_ ?_ ⟨.un, .un, .un, .un, rfl⟩
  · rintro ρ ⟨s3, s4, s5, s6, rfl⟩
    conv => whnf
    exact ⟨rfl, rfl⟩
  · rintro done ⟨p, c⟩ rest ρ nx bk he ⟨s3, s4, s5, s6, rfl⟩ hnx -
    have hr : (p, c) ∈ rs := by rw [he]; simp
    have g1 : p.length = n := (h1.2.1 _ hr).1
    have g2 : bnd 5000 c := h1.2.2.1 _ hr
    conv => whnf
    refine ⟨⟨by rw [List.length_map]; omega, by rw [List.length_map, g1]; omega⟩, ?_⟩
    rw [List.length_map, g1, rngD_ints]
    refine forL_gen D.int (rgI 0 (n : Nat)) (fun done2 rest2 ρ => ∃ s5 s6, ρ = [.val (rowsD rs), .val (ilst xs), .val (.int (valP done xs)), .val (tupD p), .val (.int (c * ev (xs.take done2.length) (p.take done2.length))), s5, s6]) ?_ ?_ ⟨s5, s6, by rw [List.length_nil, List.take_zero, List.take_zero, ev_nil, Int.mul_one]; rfl⟩
    · rintro ρ ⟨s5, s6, rfl⟩
      conv => whnf
      refine hnx _ ⟨.val (tupD p), .val (.int (c * ev xs p)), s5, s6, ?_⟩
      have e1 : xs.take (rgI 0 (n : Nat)).length = xs := List.take_of_length_le (by rw [rgI_len, h5]; omega)
      have e2 : p.take (rgI 0 (n : Nat)).length = p := List.take_of_length_le (by rw [rgI_len, g1]; omega)
      rw [e1, e2]
      have e3 : valP (done ++ [(p, c)]) xs = valP done xs + c * ev xs p := lin_snoc _ _ _
      rw [e3]; rfl
    · rintro done2 j rest2 ρ nx2 bk2 he2 ⟨s5, s6, rfl⟩ hnx2 -
      have hj : (rgI 0 (n : Nat))[done2.length]? = some j := by rw [he2, List.getElem?_append_right (by omega), Nat.sub_self]; rfl
      have hin : done2.length < n := by
        have := (List.getElem?_eq_some_iff.mp hj).1
        rw [rgI_len] at this
        omega
      have ej : j = (done2.length : Nat) := by
        unfold rgI at hj
        rw [List.getElem?_map, List.getElem?_range (by omega)] at hj
        have := Option.some.inj hj
        have : (0 : Int) + (done2.length : Nat) = j := this
        omega
      subst ej
      generalize hi : done2.length = i at *
      have hat : 0 ≤ p.getD i 0 ∧ p.getD i 0 ≤ 60 := ok_at h1.2.1 hr hin
      have hab : bnd 6 (xs.getD i 0) := h6 _ (VL.getD_mem (by omega))
      have hev := ev_take xs p i (by rw [h5, g1]) (by rw [g1]; exact hin)
      have hpb := part60 hn (h1.2.1 _ hr) h6 i
      obtain ⟨e, hpe⟩ : ∃ e : Nat, p.getD i 0 = e := ⟨(p.getD i 0).toNat, by omega⟩
      rw [hpe, Int.toNat_natCast] at hev
      conv => whnf
      refine ⟨_, at_int (by rw [g1]; exact hin), ?_⟩
      rw [hpe]
      conv => whnf
      refine ⟨⟨by omega, by omega⟩, ?_⟩
      rw [rngD_ints]
      refine forL_gen D.int (rgI 0 (e : Nat)) (fun done3 rest3 ρ => ∃ s6, ρ = [.val (rowsD rs), .val (ilst xs), .val (.int (valP done xs)), .val (tupD p), .val (.int (c * ev (xs.take i) (p.take i) * (xs.getD i 0) ^ done3.length)), .val (.int (i : Nat)), s6]) ?_ ?_ ⟨s6, by rw [List.length_nil, Int.pow_zero, Int.mul_one]; rfl⟩
      · rintro ρ ⟨s6, rfl⟩
        conv => whnf
        refine hnx2 _ ⟨.val (.int (i : Nat)), s6, ?_⟩
        rw [List.length_append, List.length_singleton, hi, hev, rgI_len, ← Int.mul_assoc]
        simp
      · rintro done3 t rest3 ρ nx3 bk3 he3 ⟨s6, rfl⟩ hnx3 -
        have hl3 := congrArg List.length he3
        rw [rgI_len, List.length_append, List.length_cons] at hl3
        conv => whnf
        refine ⟨_, at_int (by omega), ?_⟩
        conv => whnf
        have h22 : 6 * done3.length ≤ 360 := by omega
        refine ⟨mulok (bnd_mul (bnd_mul g2 hpb) (bnd_pow hab done3.length)) hab (by omega), ?_⟩
        conv => whnf
        refine hnx3 _ ⟨.val (.int t), ?_⟩
        rw [List.length_append, List.length_singleton, Int.pow_succ, ← Int.mul_assoc]; rfl
theorem at_run {n : Nat} {rs : List Mono} {ts : List Nat} {K : Bool → D → Prop} {E : Exc → Prop} (h1 : gq n 5000 rs) (h2 : ts.length = n) (h3 : ∀ t ∈ ts, t ≤ 60) (h : K false (.int (valP rs (natI ts)))) : (Γ 18).run [rowsD rs, natL ts] K E :=
  run_det (α := Nat × List Mono × List Nat) (n, rs, ts) rfl ⟨h1, h2, h3⟩ h
theorem law_least_run {n B : Nat} {rs : List Mono} {K : Bool → D → Prop} {E : Exc → Prop} (h1 : gq n B rs) (h2 : B ≤ 5000) (h0 : rs ≠ []) (h : ∀ ts left, ts.length = n → PointR rs ts left → K true (natL ts)) : (Γ 27).run [rowsD rs, .int n] K E :=
  run_of (s := Γ 27) (n, rs, B) rfl ⟨h1, h2, h0⟩ (fun o e ⟨e1, ts, left, g1, g2, g3⟩ => by subst e1 g3; exact h ts left g1 g2) fun e z => z.elim
theorem sz_natL (ts : List Nat) : sz (natL ts) = ts.length + 1 := by
  have := sz_tup (ts.map fun t : Nat => ((t : Nat) : Int))
  rw [List.length_map] at this
  rw [← this]; rfl
theorem val29 : VAL 29 ir29 N29 := by
  show ∀ x : Nat × List Mono, (gq x.1 520 x.2 ∧ x.2 ≠ [] ∧ x.2.length * (x.1 + 3) ≤ 70000) → _
  rintro ⟨n, rs⟩ ⟨h1, h2, h3⟩
  have h1 : gq n 520 rs := h1
  have h2 : rs ≠ [] := h2
  have h3 : rs.length * (n + 3) ≤ 70000 := h3
  have hn := h1.1
  show wSs Γ ir29 [.val (objN n rs), .val (.int n), .val (rowsD rs), .un, .un, .un] _ _
  conv => whnf
  refine law_least_run h1 (by decide) h2 fun ts left l p => ?_
  have t60 := (p.gq h1 h2 (by omega)).2.2
  have ne := p.ne0 h1 h2 l
  conv => whnf
  refine point_run h1 (by decide) (fun z => absurd z h2) fun _ ts' left' l' p' => ?_
  obtain ⟨e1, e2⟩ := p.uniq p' (by omega)
  subst e1 e2
  have hpl : plainD (natL ts) = true := plain_ints _
  have hsz : sz (natL ts) ≤ 100000 := by rw [sz_natL]; omega
  conv => whnf
  refine ⟨.inl rfl, ?_⟩
  conv => whnf
  refine ⟨.inl rfl, ?_⟩
  refine same_run (Γ := Γ) (m := 21) rfl rfl hpl hsz ?_
  conv => whnf
  refine ⟨fun q => absurd q (by decide), fun _ => ?_⟩
  conv => whnf
  refine ⟨.inl rfl, ?_⟩
  refine at_run (h1.mono (by decide)) l t60 ?_
  conv => whnf
  refine ⟨fun q => absurd (of_decide_eq_true q) ne, fun _ => ?_⟩
  conv => whnf
  refine ⟨.inl rfl, ⟨rfl, by rw [List.length_map, List.length_map]; show _ < 1000000; omega⟩, ?_⟩
  conv => whnf
  refine ⟨.inl rfl, ?_⟩
  conv => whnf
  refine ⟨⟨by omega, by rw [List.length_append, List.length_map, List.length_map]; show ((ts.length + 1 : Nat) : Int) < _; omega⟩, ?_⟩
  have el : ((List.map D.int (ts.map fun t : Nat => ((t : Nat) : Int))) ++ [(R.val (D.int 7)).d]) = ((ts.map fun t : Nat => ((t : Nat) : Int)) ++ [7]).map D.int := by rw [List.map_append]; rfl
  have ll : (((List.map D.int (ts.map fun t : Nat => ((t : Nat) : Int))) ++ [(R.val (D.int 7)).d])).length = n + 1 := by rw [el, List.length_map, List.length_append, List.length_map, l]; rfl
  rw [ll, rngD_ints]
  refine forL_gen D.int (rgI 0 (n + 1 : Nat)) (fun done rest ρ => ∃ (qs : List Int) (s5 : VL.Slot), qs.length = n + 1 ∧ ρ = [.val (objN n rs), .val (.int n), .val (rowsD rs), .own (natL ts), .own (ilst qs), s5]) ?_ ?_ ⟨(ts.map fun t : Nat => ((t : Nat) : Int)) ++ [7], .un, by rw [List.length_append, List.length_map, l]; rfl, by unfold ilst; rw [← el]; rfl⟩
  · rintro ρ ⟨qs, s5, hq, rfl⟩
    conv => whnf
    refine point_run h1 (by decide) (fun z => absurd z h2) fun _ ts' left' l' p' => ?_
    obtain ⟨e1, e2⟩ := p.uniq p' (by omega)
    subst e1 e2
    conv => whnf
    refine ⟨.inl rfl, ?_⟩
    refine same_run (Γ := Γ) (m := 21) rfl rfl hpl hsz ?_
    conv => whnf
    refine ⟨true, rfl, fun _ => ?_, fun z => by cases z⟩
    conv => whnf
    refine call22 rfl h1.rn (by omega) hn ?_
    exact ⟨rfl, rfl⟩
  · rintro done k rest ρ nx bk he ⟨qs, s5, hq, rfl⟩ hnx -
    obtain ⟨rfl, hk⟩ := rgI_mid he
    conv => whnf
    refine ⟨.inl rfl, _, at_int (p := qs) (j := done.length) (by omega), ?_⟩
    conv => whnf
    refine ⟨.inl rfl, rfl, done.length, ?_, ?_⟩
    · rw [List.length_map]; exact ixNn (by omega)
    · exact hnx _ ⟨qs.set done.length (qs.getD done.length 0 + 1), .val (.int (done.length : Nat)), by rw [List.length_set]; exact hq, by unfold ilst; rw [List.map_set]; rfl⟩
theorem right_run {n : Nat} {rs : List Mono} {K : Bool → D → Prop} {E : Exc → Prop} (h1 : gq n 520 rs) (h2 : rs ≠ []) (h3 : rs.length * (n + 3) ≤ 70000) (h : K false (.bl true)) : (Γ 29).run [objN n rs, .int n, rowsD rs] K E :=
  run_det (α := Nat × List Mono) (n, rs) rfl ⟨h1, h2, h3⟩ h

def fall (t : Int) : Nat → Int
  | 0 => 1
  | r + 1 => fall t r * (t - (r : Nat))
theorem fall_zero {t : Nat} : ∀ {r : Nat}, t < r → fall (t : Nat) r = 0
  | r + 1, h => by
    show fall (t : Nat) r * ((t : Nat) - (r : Nat)) = 0
    rcases Nat.lt_succ_iff_lt_or_eq.mp h with z | z
    · rw [fall_zero z, Int.zero_mul]
    · rw [z, Int.sub_self, Int.mul_zero]
theorem fall_ne {t : Nat} : ∀ {r : Nat}, r ≤ t → fall (t : Nat) r ≠ 0
  | 0, _ => by show (1 : Int) ≠ 0; decide
  | r + 1, h => by
    show fall (t : Nat) r * ((t : Nat) - (r : Nat)) ≠ 0
    exact Int.mul_ne_zero (fall_ne (by omega)) (by omega)
/-- the product of x_j - 0, x_j - 1, .. of r factors -/
def deepR (n j r : Nat) (m : List Mono) : Prop := Dg n r m ∧ Cb (2 + 20 * r) m ∧ Can m ∧ ∀ y : List Int, y.length = n → valP m y = fall (y.getD j 0) r
theorem heldB_iff {n i : Nat} {m : List Mono} (hc : Can m) (hr : Rn n m) (hi : i < n) : heldB m i = true ↔ ∃ (x : List Int) (v : Int), x.length = n ∧ valP m x ≠ valP m (x.set i v) := by
  rw [← held_iff hc hr hi]
  exact held_any hi
theorem deep_un {n j r i : Nat} {m : List Mono} (h : deepR n j r m) (hi : i < n) (hne : i ≠ j ∨ r = 0) : heldB m i = false := by
  cases e : heldB m i
  · rfl
  · exfalso
    obtain ⟨x, v, hx, q⟩ := (heldB_iff h.2.2.1 h.1.rn hi).mp e
    refine q ?_
    rw [h.2.2.2 x hx, h.2.2.2 _ (by rw [List.length_set]; exact hx)]
    rcases hne with z | z
    · rw [getD_set (by omega), if_neg (fun w => z w.symm)]
    · rw [z]; rfl
theorem deep_len {n j r : Nat} {m : List Mono} (h : deepR n j r m) (hj : j < n) : m.length ≤ r + 1 := by
  have := nodup_len (l := (List.range (r + 1)).map fun k : Nat => (zeroP n).set j (k : Nat)) h.2.2.1.nodup fun p hp => by
    obtain ⟨q, hq, rfl⟩ := List.mem_map.mp hp
    have g := h.1 q hq
    have d := dg_at g hj
    refine List.mem_map.mpr ⟨(q.1.getD j 0).toNat, List.mem_range.mpr (by omega), ?_⟩
    have lz : (zeroP n).length = n := (zero_dg n).1
    refine getD_ext (by rw [List.length_set, lz, g.1]) fun i hi => ?_
    rw [List.length_set, lz] at hi
    rw [getD_set (by omega)]
    split
    · rename_i e; rw [e]; omega
    · rename_i e
      rw [unheld h.1.rn hi (deep_un h hi (.inl e)) q hq]
      unfold zeroP
      rw [List.getD_eq_getElem?_getD, List.getElem?_replicate, if_pos hi]; rfl
  rw [List.length_map, List.length_map, List.length_range] at this
  exact this
theorem deep_gq {n j r : Nat} {m : List Mono} (h : deepR n j r m) (hn : n ≤ 64) (hj : j < n) (hr : r ≤ 60) : gq n 1300 m := ⟨hn, h.1.ok hr, h.2.1.mono (by omega), h.2.2.1, by have := deep_len h hj; omega⟩
theorem deep_ne {n j r : Nat} {m : List Mono} (h : deepR n j r m) (hj : j < n) : m ≠ [] := fun z => by
  subst z
  have := h.2.2.2 ((zeroP n).set j (r : Nat)) (by rw [List.length_set]; exact (zero_dg n).1)
  have lz : (zeroP n).length = n := (zero_dg n).1
  rw [getD_set (by omega), if_pos rfl] at this
  exact fall_ne (Nat.le_refl r) this.symm
/-- its least numbers: r at the variable j, 0 elsewhere -/
theorem deep_pt {n j r : Nat} {m : List Mono} (h : deepR n j r m) (hj : j < n) (hn : n ≤ 64) (hr : r ≤ 60) {ts : List Nat} {left : List Mono} (p : PointR m ts left) : ts.length ≤ n → (∀ i, i < ts.length → ts.getD i 0 = if i = j then r else 0) ∧ (ts.length ≤ j → left = m) ∧ (j < ts.length → ∀ i, i < n → heldB left i = false) := by
  have lz : (zeroP n).length = n := (zero_dg n).1
  induction p with
  | nil => exact fun _ => ⟨fun i hi => absurd hi (by simp), fun _ => rfl, fun hh => absurd hh (by simp)⟩
  | @snoc ts left out t p s ih =>
    intro l
    rw [List.length_append] at l
    have l : ts.length + 1 ≤ n := l
    obtain ⟨i1, i2, i3⟩ := ih (by omega)
    have key : (t = if ts.length = j then r else 0) ∧ (ts.length + 1 ≤ j → out = m) ∧ (j < ts.length + 1 → ∀ i, i < n → heldB out i = false) := by
      rcases Nat.lt_trichotomy ts.length j with z | z | z
      · have e := i2 (by omega)
        subst e
        rw [if_neg (by omega)]
        rcases s with ⟨_, rfl, rfl⟩ | ⟨a1, _⟩
        · exact ⟨rfl, fun _ => rfl, fun q => by omega⟩
        · rw [deep_un h (by omega) (.inl (by omega))] at a1; cases a1
      · have e := i2 (by omega)
        subst e
        rw [if_pos z]
        have hun : ∀ i, i < n → heldB out i = false := fun i hi => by
          cases e : heldB out i
          · rfl
          · exfalso
            have g := s.gq (deep_gq h hn hj hr) (by omega)
            obtain ⟨x, v, hx, q⟩ := (heldB_iff g.2.2.2.1 g.rn hi).mp e
            refine q ?_
            have hx2 : (x.set i v).length = n := by rw [List.length_set]; exact hx
            rw [s.val h.1.rn (by omega) hx, s.val h.1.rn (by omega) hx2, h.2.2.2 _ (by rw [List.length_set]; exact hx), h.2.2.2 _ (by rw [List.length_set]; exact hx2), z, getD_set (by omega), getD_set (by omega), if_pos rfl, if_pos rfl]
        refine ⟨?_, fun q => by omega, fun _ => hun⟩
        · rcases s with ⟨a1, rfl, rfl⟩ | ⟨a1, a2, a3, a4, a5⟩
          · rcases Nat.eq_zero_or_pos r with r0 | r0
            · exact r0.symm
            · exfalso
              have : heldB out j = true := (heldB_iff h.2.2.1 h.1.rn hj).mpr ⟨(zeroP n).set j ((0 : Nat) : Int), (r : Nat), by rw [List.length_set]; exact lz, by
                rw [h.2.2.2 _ (by rw [List.length_set]; exact lz), h.2.2.2 _ (by rw [List.length_set, List.length_set]; exact lz), getD_set (by omega), if_pos rfl, getD_set (by rw [List.length_set]; omega), if_pos rfl, fall_zero r0]
                exact fun w => fall_ne (Nat.le_refl r) w.symm⟩
              rw [← z, a1] at this; cases this
          · rw [z] at a4 a5
            rcases Nat.lt_trichotomy t r with y | y | y
            · exfalso
              refine a3 (Can.ident (n := n) a4.can (b := []) ⟨List.Pairwise.nil, fun p c => by simp [VL.coef], Nat.le_refl _⟩ (gat_rn a4 (ok_rn (fr_ok (h.1.ok hr)))) (fun _ h => nomatch h) fun x hx => ?_)
              rw [fill_val h.1.rn hj a4 hx, h.2.2.2 _ (by rw [List.length_set]; exact hx), getD_set (by omega), if_pos rfl, fall_zero y]; rfl
            · exact y
            · exfalso
              have := fill_val h.1.rn hj (a5 r y) (x := zeroP n) lz
              rw [h.2.2.2 _ (by rw [List.length_set]; exact lz), getD_set (by omega), if_pos rfl] at this
              exact fall_ne (Nat.le_refl r) this.symm
      · rw [if_neg (by omega)]
        rcases s with ⟨_, rfl, rfl⟩ | ⟨a1, _⟩
        · exact ⟨rfl, fun q => by omega, fun _ => i3 (by omega)⟩
        · rw [i3 (by omega) _ (by omega)] at a1; cases a1
    refine ⟨fun i hi => ?_, fun q => ?_, fun q => ?_⟩
    · rw [List.length_append] at hi
      have hi : i < ts.length + 1 := hi
      rcases Nat.lt_succ_iff_lt_or_eq.mp hi with z | z
      · rw [List.getD_eq_getElem?_getD, List.getElem?_append_left z, ← List.getD_eq_getElem?_getD]
        exact i1 i z
      · subst z
        rw [List.getD_eq_getElem?_getD, List.getElem?_append_right (Nat.le_refl _), Nat.sub_self]
        exact key.1
    · rw [List.length_append] at q; exact key.2.1 q
    · rw [List.length_append] at q; exact key.2.2 q

theorem deep_start {n j : Nat} {c : List Mono} (h : gatR 61 [(zeroP n, 1)] c) : deepR n j 0 c := by
  refine ⟨gat_dg h fun r hr => ?_, gat_cb (B := 1) (k := 1) h (fun r hr => ?_) (by show 1 < 2; decide), h.can, fun y hy => ?_⟩
  · rw [List.mem_singleton] at hr; rw [hr]; exact zero_dg n
  · rw [List.mem_singleton] at hr; rw [hr]; exact (by decide : (1 : Int).natAbs < 2 ^ 1)
  · show lin (ev y) c = 1
    rw [h.lin]
    show 1 * ev y (zeroP n) + 0 = 1
    rw [ev_zero]; rfl
theorem less_s {n j r : Nat} {x c s : List Mono} (hj : j < n) (hr : r ≤ 60) (hx : gatR 61 [(unitP n j, 1)] x) (hc : gatR 61 [(zeroP n, ((r : Nat) : Int))] c) (hs : gatR 61 (x ++ negR c) s) : Dg n 1 s ∧ Cb 9 s ∧ s.length ≤ 2 ∧ ∀ y : List Int, y.length = n → valP s y = y.getD j 0 - (r : Nat) := by
  have xl : x.length ≤ 1 := hx.2.2
  have cl : c.length ≤ 1 := hc.2.2
  have ll : (x ++ negR c).length ≤ 2 := by unfold negR; rw [List.length_append, List.length_map]; omega
  refine ⟨gat_dg hs fun q hq => ?_, gat_cb (B := 7) (k := 2) hs (fun q hq => ?_) (by show _ < 4; omega), Nat.le_trans hs.2.2 ll, fun y hy => ?_⟩
  · rcases List.mem_append.mp hq with z | z
    · exact gat_dg hx (fun r hr => by rw [List.mem_singleton] at hr; rw [hr]; exact unit_dg hj) q z
    · unfold negR at z
      obtain ⟨w, hw, rfl⟩ := List.mem_map.mp z
      exact dg_mono (gat_dg hc (fun r hr => by rw [List.mem_singleton] at hr; rw [hr]; exact zero_dg n) w hw) (by decide)
  · rcases List.mem_append.mp hq with z | z
    · exact bnd_mono (gat_cb (B := 1) (k := 1) hx (fun r hr => by rw [List.mem_singleton] at hr; rw [hr]; exact (by decide : (1 : Int).natAbs < 2 ^ 1)) (by show 1 < 2; decide) q z) (by decide)
    · unfold negR at z
      obtain ⟨w, hw, rfl⟩ := List.mem_map.mp z
      have := gat_cb (B := 6) (k := 1) hc (fun q hr => by rw [List.mem_singleton] at hr; rw [hr]; exact nat_bnd (by omega)) (by show 1 < 2; decide) w hw
      show (-w.2).natAbs < 2 ^ 7
      rw [Int.natAbs_neg]; exact this
  · show lin (ev y) s = _
    rw [hs.lin, lin_app, lin_neg, hx.lin, hc.lin]
    show 1 * ev y (unitP n j) + 0 + -((r : Nat) * ev y (zeroP n) + 0) = _
    rw [ev_zero, ev_unit hj hy]
    omega
theorem deep_step {n j r : Nat} {m x c s out : List Mono} (h : deepR n j r m) (hj : j < n) (hr : r ≤ 60) (hx : gatR 61 [(unitP n j, 1)] x) (hc : gatR 61 [(zeroP n, ((r : Nat) : Int))] c) (hs : gatR 61 (x ++ negR c) s) (ho : gatR 61 (prodR m s) out) : deepR n j (r + 1) out := by
  obtain ⟨s1, s2, s3, s4⟩ := less_s hj hr hx hc hs
  have ml := deep_len h hj
  have pl : (prodR m s).length ≤ 61 * 2 := by rw [prod_len]; exact Nat.mul_le_mul (by omega) s3
  refine ⟨gat_dg ho (prod_dg h.1 s1), (gat_cb (k := 7) ho (prod_cb h.2.1 s2) (by show _ < 128; omega)).mono (by omega), ho.can, fun y hy => ?_⟩
  show lin (ev y) out = _
  rw [ho.lin]
  have := val_prod h.1.rn s1.rn hy
  have this : lin (ev y) (prodR m s) = _ := this
  rw [this, h.2.2.2 y hy, s4 y hy]; rfl
theorem deep_nat {n j r : Nat} {m left : List Mono} {ts : List Nat} (h : deepR n j r m) (hj : j < n) (hn : n ≤ 64) (hr : r ≤ 60) (p : PointR m ts left) (l : ts.length = n) : natL ts = .lst ((rgI 0 (n : Nat)).map fun k => D.int (((r : Nat) : Int) * (if decide (k = ((j : Nat) : Int)) then 1 else 0))) := by
  obtain ⟨q, -⟩ := deep_pt h hj hn hr p (by omega)
  unfold natL ilst rgI
  congr 1
  rw [List.map_map, List.map_map, show ((n : Int) - 0).toNat = n by omega]
  refine List.ext_getElem? fun i => ?_
  rw [List.getElem?_map, List.getElem?_map]
  by_cases hi : i < n
  · have := q i (by omega)
    rw [List.getD_eq_getElem?_getD, List.getElem?_eq_getElem (by omega)] at this
    have this : ts[i] = if i = j then r else 0 := this
    rw [List.getElem?_eq_getElem (by omega), List.getElem?_range hi, this]
    show some (D.int (((if i = j then r else 0 : Nat)) : Int)) = some (D.int (((r : Nat) : Int) * (if decide ((0 : Int) + (i : Nat) = ((j : Nat) : Int)) = true then 1 else 0)))
    congr 2
    by_cases e : i = j
    · rw [if_pos e, if_pos (decide_eq_true (by omega))]; omega
    · rw [if_neg e, if_neg (by rw [decide_eq_true_iff]; omega)]; omega
  · rw [List.getElem?_eq_none (by omega), List.getElem?_eq_none (by simp; omega)]; rfl
theorem val30 : VAL 30 ir30 N30 := by
  show ∀ x : Nat × Nat × Nat, (x.1 ≤ 64 ∧ x.2.1 < x.1 ∧ x.2.2 ≤ 60) → _
  rintro ⟨n, j, sz⟩ ⟨h1, h2, h3⟩
  have h1 : n ≤ 64 := h1
  have h2 : j < n := h2
  have h3 : sz ≤ 60 := h3
  show wSs Γ ir30 [.val (.int n), .val (.int j), .val (.int sz), .un, .un, .un, .un] _ _
  conv => whnf
  refine var_run h1 h2 fun x hx => ?_
  conv => whnf
  refine const_run h1 fun c0 hc0 => ?_
  conv => whnf
  refine ⟨⟨by omega, by omega⟩, ?_⟩
  rw [rngD_ints]
  refine forL_gen D.int (rgI 0 (sz : Nat)) (fun done rest ρ => ∃ m s5, deepR n j done.length m ∧ ρ = [.val (.int n), .val (.int j), .val (.int sz), .val (objN n x), .val (objN n m), s5, .un]) ?_ ?_ ⟨c0, _, deep_start hc0, rfl⟩
  · rintro ρ ⟨m, s5, hd, rfl⟩
    rw [rgI_len, show ((sz : Int) - 0).toNat = sz by omega] at hd
    conv => whnf
    refine point_run (deep_gq hd h1 h2 h3) (by decide) (fun z => absurd z (deep_ne hd h2)) fun _ ts left l p => ?_
    conv => whnf
    refine ⟨by omega, ?_⟩
    rw [rngD_ints]
    conv => whnf
    refine compL_gen D.int (fun _ => true) (fun k => .int (((sz : Nat) : Int) * (if decide (k = ((j : Nat) : Int)) then 1 else 0))) (ρ := [.val (.int n), .val (.int j), .val (.int sz), .val (objN n x), .val (objN n m), s5, .un]) (fun k => [.val (.int n), .val (.int j), .val (.int sz), .val (objN n x), .val (objN n m), s5, .val (.int k)]) (fun _ => rfl) _ _ (by rw [rgI_len]; show 0 + ((n : Int) - 0).toNat ≤ 1000000; omega) (fun k hk Ka Ks ha _ => ?_) ?_
    · conv => whnf
      refine ⟨fun _ => ?_, (fun z => by cases z)⟩
      conv => whnf
      refine ⟨mulok (a := 6) (nat_bnd (by omega)) bnd_ifz (by decide), ?_⟩
      exact ha rfl
    rw [List.filter_eq_self.mpr (fun _ _ => rfl), List.nil_append, ← deep_nat hd h2 h1 (by omega) p l]
    conv => whnf
    refine same_run (Γ := Γ) (m := 21) rfl rfl (plain_ints _) (by show VL.sz (natL ts) ≤ 100000; rw [sz_natL]; omega) ?_
    exact ⟨rfl, rfl⟩
  · rintro done k rest ρ nx bk he ⟨m, s5, hd, rfl⟩ hnx -
    obtain ⟨rfl, hk⟩ := rgI_mid he
    have fin : wSs Γ (.cons (.asg (.nm 4) (.binO .Mult 1 35 (.var 4) (.binO .Sub 1 34 (.var 3) (.call 4 (.cons (.var 0) (.cons (.var 5) .nil)))))) .nil) [.val (.int n), .val (.int j), .val (.int sz), .val (objN n x), .val (objN n m), .val (.int (done.length : Nat)), .un] { nx := nx, rt := (Γ 30).post (n, j, sz), bk := bk, ct := nx } (fun e _ => (Γ 30).exc (n, j, sz) e) := by
      conv => whnf
      refine const_run h1 fun c hc => ?_
      have ox : OkR n 61 [(unitP n j, (1 : Int))] := fun r hr => by rw [List.mem_singleton] at hr; rw [hr]; exact dg_bd (unit_dg h2) (by decide)
      have oc : OkR n 61 [(zeroP n, ((done.length : Nat) : Int))] := fun r hr => by rw [List.mem_singleton] at hr; rw [hr]; exact dg_bd (zero_dg n) (by decide)
      have xl : x.length ≤ 1 := hx.2.2
      have cl : c.length ≤ 1 := hc.2.2
      have ml := deep_len hd h2
      conv => whnf
      refine ⟨⟨rfl, rfl⟩, ?_⟩
      refine sub_run h1 (hx.ok ox) (hc.ok oc) (by omega) (by omega) fun s hs => ?_
      obtain ⟨s1, s2, s3, s4⟩ := less_s h2 (by omega) hx hc hs
      have pd := prod_dg hd.1 s1
      have ms : m.length * s.length ≤ 61 * 2 := Nat.mul_le_mul (by omega) s3
      conv => whnf
      refine ⟨⟨rfl, rfl⟩, ?_⟩
      refine mul_run hd.1.rn s1.rn (hd.2.1.mono (by omega)) (s2.mono (by decide)) (by omega) (pd.ok (by omega)) h1 fun out ho => ?_
      exact hnx _ ⟨out, .val (.int (done.length : Nat)), by rw [List.length_append, List.length_singleton]; exact deep_step hd h2 (by omega) hx hc hs ho, rfl⟩
    conv => whnf
    refine ⟨⟨by decide, by decide⟩, ?_⟩
    conv => whnf
    refine ⟨fun _ => ?_, fun _ => fin⟩
    conv => whnf
    refine point_run (deep_gq hd h1 h2 (by omega)) (by decide) (fun z => absurd z (deep_ne hd h2)) fun _ ts left l p => ?_
    conv => whnf
    refine ⟨by omega, ?_⟩
    rw [rngD_ints]
    conv => whnf
    refine compL_gen D.int (fun _ => true) (fun k => .int (((done.length : Nat) : Int) * (if decide (k = ((j : Nat) : Int)) then 1 else 0))) (ρ := [.val (.int n), .val (.int j), .val (.int sz), .val (objN n x), .val (objN n m), .val (.int (done.length : Nat)), .un]) (fun k => [.val (.int n), .val (.int j), .val (.int sz), .val (objN n x), .val (objN n m), .val (.int (done.length : Nat)), .val (.int k)]) (fun _ => rfl) _ _ (by rw [rgI_len]; show 0 + ((n : Int) - 0).toNat ≤ 1000000; omega) (fun k hk Ka Ks ha _ => ?_) ?_
    · conv => whnf
      refine ⟨fun _ => ?_, (fun z => by cases z)⟩
      conv => whnf
      refine ⟨mulok (a := 6) (nat_bnd (by omega)) bnd_ifz (by decide), ?_⟩
      exact ha rfl
    rw [List.filter_eq_self.mpr (fun _ _ => rfl), List.nil_append, ← deep_nat hd h2 h1 (by omega) p l]
    conv => whnf
    refine same_run (Γ := Γ) (m := 21) rfl rfl (plain_ints _) (by show VL.sz (natL ts) ≤ 100000; rw [sz_natL]; omega) ?_
    conv => whnf
    refine ⟨fun q => absurd q (by decide), fun _ => fin⟩
theorem deep_run {n j sz : Nat} {K : Bool → D → Prop} {E : Exc → Prop} (h1 : n ≤ 64) (h2 : j < n) (h3 : sz ≤ 60) (h : K false (.bl true)) : (Γ 30).run [.int n, .int j, .int sz] K E :=
  run_det (α := Nat × Nat × Nat) (n, j, sz) rfl ⟨h1, h2, h3⟩ h

theorem coef_perm {a b : List Mono} (h : a.Perm b) (p : List Int) : VL.coef a p = VL.coef b p := by
  induction h with
  | nil => rfl
  | cons r _ ih =>
    show (if r.1 = p then r.2 else 0) + VL.coef _ p = (if r.1 = p then r.2 else 0) + VL.coef _ p
    rw [ih]
  | swap r s l =>
    show (if s.1 = p then s.2 else 0) + ((if r.1 = p then r.2 else 0) + VL.coef l p) = (if r.1 = p then r.2 else 0) + ((if s.1 = p then s.2 else 0) + VL.coef l p)
    omega
  | trans _ _ h1 h2 => rw [h1, h2]
theorem back_rowsP {rs : List Mono} {es : List D} (h : es.Perm (rs.map rowD)) : ∃ l : List Mono, es = l.map rowD ∧ l.Perm rs := by
  generalize hm : rs.map rowD = ds at h
  induction h generalizing rs with
  | nil => exact ⟨[], rfl, by
      have : rs = [] := by simpa using hm
      rw [this]⟩
  | cons d _ ih =>
    match rs, hm with
    | r :: rs, hm =>
      rw [List.map_cons] at hm
      injection hm with e1 e2
      obtain ⟨l, rfl, p⟩ := ih e2
      exact ⟨r :: l, by rw [List.map_cons, e1], p.cons r⟩
  | swap a b l =>
    match rs, hm with
    | r :: s :: rs, hm =>
      rw [List.map_cons, List.map_cons] at hm
      injection hm with e1 hm
      injection hm with e2 e3
      exact ⟨s :: r :: rs, by rw [List.map_cons, List.map_cons, e1, e2, e3], .swap r s rs⟩
  | trans _ _ i1 i2 =>
    obtain ⟨l, rfl, p⟩ := i2 hm
    obtain ⟨l2, rfl, p2⟩ := i1 rfl
    exact ⟨l2, rfl, p2.trans p⟩
theorem gat_perm {B : Int} {a b out out' : List Mono} (h : a.Perm b) (ha : gatR B a out) (hb : gatR B b out') : out = out' := ha.uniq hb (coef_perm h)
theorem items_gq {n : Nat} {rs out : List Mono} (hn : n ≤ 64) (h : okI n rs) (g : gatR 61 rs out) : gq n 520 out ∧ out.length * (n + 3) ≤ 70000 := by
  obtain ⟨h1, h2, h3, h4⟩ := h
  have ol := g.2.2
  refine ⟨⟨hn, g.ok h1, (gat_cb (k := 12) g h2 (by show _ < 4096; omega)).mono (by decide), g.can, by omega⟩, ?_⟩
  exact Nat.le_trans (Nat.mul_le_mul_right _ ol) h4

def irTurnL : VEs := (.cons (.tup (.cons (.var 8) (.cons (.var 4) .nil))) (.cons (.tup (.cons (.var 9) (.cons (.var 5) .nil))) (.cons (.tup (.cons (.var 8) (.cons (.var 4) .nil))) .nil)))
def irTurnB : VSs := (.cons (.asg (.nm 12) (.call 15 (.cons (.var 11) .nil)))
  (.cons (.ifS (.tv (.cmp .Eq (.blt .len (.cons (.var 12) .nil)) (.cst (.int 0)))) (.cons (.ifS (.tv (.cmp .IsNot (.call 7 (.cons (.var 10) .nil)) (.cst .non))) (.cons (.ret (.cst (.bl false)))
  .nil) .nil)
  .nil) (.cons (.ifS (.tnot (.tv (.call 29 (.cons (.var 10) (.cons (.var 3) (.cons (.var 12) .nil)))))) (.cons (.ret (.cst (.bl false)))
  .nil) .nil)
  .nil))
  .nil))
def irLast : VSs := (.cons (.ifS (.tand (.tv (.cmp .Eq (.var 2) (.cst (.int 2)))) (.tand (.tv (.cmp .Gt (.var 3) (.cst (.int 0)))) (.tnot (.tv (.call 30 (.cons (.var 3) (.cons (.call 10 (.cons (.var 1) (.cons (.var 3) .nil))) (.cons (.call 11 (.cons (.var 1) (.cons (.lst (.cons (.cst (.int 58)) (.cons (.cst (.int 59)) (.cons (.cst (.int 60)) .nil)))) .nil))) .nil)))))))) (.cons (.ret (.cst (.bl false)))
  .nil) .nil)
  (.cons (.asg (.nm 13) (.call 32 (.cons (.var 3) (.cons (.call 12 (.cons (.var 1) (.cons (.var 7) .nil))) .nil))))
  (.cons (.ret (.andE (.cmp .Is (.call 7 (.cons (.var 13) .nil)) (.cst .non)) (.andE (.cmp .Is (.call 7 (.cons (.call 32 (.cons (.var 3) (.cons (.lst .nil) .nil))) .nil)) (.cst .non)) (.cmp .Is (.call 7 (.cons (.binO .Sub 1 34 (.var 8) (.var 8)) .nil)) (.cst .non)))))
  .nil)))
abbrev DL : VEnds := { nx := fun _ => False, rt := fun o d => o = false ∧ d = .bl true }
abbrev EL : VL.XK := fun _ _ => False
theorem gat_nil {B : Int} {rs out : List Mono} (h : gatR B rs out) (hz : ∀ p, VL.coef rs p = 0) : out = [] := by
  match out, h with
  | [], _ => rfl
  | (p, c) :: out, h =>
    obtain ⟨e1, e2⟩ := (h.2.1 p c).mp List.mem_cons_self
    rw [hz] at e1
    exact absurd e1 e2
theorem coef_off (a : List Mono) (p : List Int) : VL.coef (a ++ negR a) p = 0 := by
  rw [coef_app, coef_neg]
  omega
theorem gq_nil {n : Nat} (hn : n ≤ 64) : gq n 0 [] := ⟨hn, (fun _ h => nomatch h), (fun _ h => nomatch h), ⟨List.Pairwise.nil, fun p c => by simp [VL.coef], Nat.le_refl _⟩, Nat.zero_le _⟩
def pairD (n : Nat) (x : List Mono × List Mono) : D := .tup [objN n x.1, rowsD x.2]
theorem turn {n : Nat} {x : List Mono × List Mono} {s2 s4 s5 s7 s8 s9 s12 s13 : VL.Slot} {nx bk : En → Prop} (hn : n ≤ 64) (h1 : okI n x.2) (h2 : gatR 61 x.2 x.1)
    (hnx : ∀ s12, nx [.un, .val .tok, s2, .val (.int n), s4, s5, .un, s7, s8, s9, .val (objN n x.1), .val (rowsD x.2), s12, s13]) : wSs Γ irTurnB [.un, .val .tok, s2, .val (.int n), s4, s5, .un, s7, s8, s9, .val (objN n x.1), .val (rowsD x.2), s12, s13] { nx := nx, rt := DL.rt, bk := bk, ct := nx } EL := by
  obtain ⟨p, a⟩ := x
  have h1 : okI n a := h1
  have h2 : gatR 61 a p := h2
  have al := h1.2.2.1
  obtain ⟨g1, g2⟩ := items_gq hn h1 h2
  conv => whnf
  refine gath_runL (Γ := Γ) (n := 15) rfl (by show a.length < 1000000; omega) h1.1 fun out ho => ?_
  have e : p = out := h2.uniq ho fun _ => rfl
  subst e
  conv => whnf
  refine ⟨.inl rfl, ?_⟩
  conv => whnf
  refine ⟨fun q => ?_, fun q => ?_⟩
  · have q : ((p.map rowD).length : Nat) = (0 : Int) := of_decide_eq_true q
    rw [List.length_map] at q
    have e0 : p = [] := List.length_eq_zero_iff.mp (by omega)
    conv => whnf
    refine point_run g1 (by decide) (fun _ => ?_) fun z => absurd e0 z
    conv => whnf
    refine ⟨(fun z => by cases z), fun _ => ?_⟩
    exact hnx _
  · have q : ¬ ((p.map rowD).length : Nat) = (0 : Int) := of_decide_eq_false q
    rw [List.length_map] at q
    have n0 : p ≠ [] := fun z => by subst z; exact q rfl
    conv => whnf
    refine ⟨.inl rfl, ?_⟩
    refine right_run g1 n0 g2 ?_
    conv => whnf
    refine ⟨fun q => absurd q (by decide), fun _ => ?_⟩
    exact hnx _
theorem law_end {n : Nat} {w : Int} {a p : List Mono} {s4 s5 s9 s10 s11 s12 : VL.Slot} (hn : n ≤ 64) (ha : okI n a) (hp : gatR 61 a p) : wSs Γ irLast [.un, .val .tok, .val (.int w), .val (.int n), s4, s5, .un, .own (rowsD (a ++ negR a)), .val (objN n p), s9, s10, s11, s12, .un] DL EL := by
  have al := ha.2.2.1
  obtain ⟨g1, -⟩ := items_gq hn ha hp
  have oe : OkR n 61 (a ++ negR a) := fun r hr => by
    rcases List.mem_append.mp hr with z | z
    · exact ha.1 r z
    · unfold negR at z
      obtain ⟨q, hq, rfl⟩ := List.mem_map.mp z
      exact ha.1 q hq
  have le : (a ++ negR a).length ≤ 6144 := by unfold negR; rw [List.length_append, List.length_map]; omega
  have fin : ∀ s2, wSs Γ (.cons (.asg (.nm 13) (.call 32 (.cons (.var 3) (.cons (.call 12 (.cons (.var 1) (.cons (.var 7) .nil))) .nil))))
  (.cons (.ret (.andE (.cmp .Is (.call 7 (.cons (.var 13) .nil)) (.cst .non)) (.andE (.cmp .Is (.call 7 (.cons (.call 32 (.cons (.var 3) (.cons (.lst .nil) .nil))) .nil)) (.cst .non)) (.cmp .Is (.call 7 (.cons (.binO .Sub 1 34 (.var 8) (.var 8)) .nil)) (.cst .non)))))
  .nil)) [.un, .val .tok, s2, .val (.int n), s4, s5, .un, .own (rowsD (a ++ negR a)), .val (objN n p), s9, s10, s11, s12, .un] DL EL := fun s2 => by
    conv => whnf
    refine ⟨.inl rfl, ?_⟩
    refine shuf_run (Γ := Γ) (m := 12) rfl (by rw [List.length_map]; show _ ≤ 1000000; omega) fun es he => ?_
    obtain ⟨l, rfl, lp⟩ := back_rowsP he
    conv => whnf
    refine mk_run (n := n) (rs := l) rfl (by rw [lp.length_eq]; omega) (fun r hr => oe r (lp.mem_iff.mp hr)) fun e1 h1 => ?_
    obtain rfl : e1 = [] := gat_nil h1 fun p => by rw [coef_perm lp, coef_off]
    conv => whnf
    refine point_run (gq_nil hn) (by decide) (fun _ => ?_) fun z => absurd rfl z
    conv => whnf
    refine ⟨true, rfl, fun _ => ?_, fun z => by cases z⟩
    conv => whnf
    refine mk_run (n := n) (rs := []) rfl (by decide) (fun _ h => nomatch h) fun e2 h2 => ?_
    obtain rfl : e2 = [] := gat_nil h2 fun p => rfl
    conv => whnf
    refine point_run (gq_nil hn) (by decide) (fun _ => ?_) fun z => absurd rfl z
    conv => whnf
    refine ⟨true, rfl, fun _ => ?_, fun z => by cases z⟩
    conv => whnf
    refine ⟨⟨rfl, rfl⟩, ?_⟩
    refine sub_run hn g1.2.1 g1.2.1 g1.2.2.2.2 g1.2.2.2.2 fun e3 h3 => ?_
    obtain rfl : e3 = [] := gat_nil h3 fun p => coef_off _ p
    conv => whnf
    refine point_run (gq_nil hn) (by decide) (fun _ => ?_) fun z => absurd rfl z
    conv => whnf
    exact ⟨rfl, rfl⟩
  conv => whnf
  refine ⟨fun q => ?_, fun _ => ?_⟩
  · conv => whnf
    refine ⟨fun q2 => ?_, fun _ => ?_⟩
    · have n0 : 0 < n := by have := of_decide_eq_true q2; omega
      conv => whnf
      refine take_run (Γ := Γ) (n := 10) rfl (lim_log (k := n) (by show n ≤ 1000000; omega)) fun u u0 u1 => ?_
      obtain ⟨j, rfl⟩ : ∃ j : Nat, u = j := ⟨u.toNat, by omega⟩
      conv => whnf
      refine VL.pick_run (Γ := Γ) (m := 11) rfl (by simp) (by show 3 ≤ 1000000; decide) fun d hd => ?_
      obtain ⟨sz, rfl, hsz⟩ : ∃ t : Nat, d = .int t ∧ t ≤ 60 := by
        have : d ∈ ([58, 59, 60] : List Int).map D.int := hd
        obtain ⟨t, ht, rfl⟩ := List.mem_map.mp this
        simp only [List.mem_cons, List.not_mem_nil, or_false] at ht
        exact ⟨t.toNat, by congr 1; omega, by omega⟩
      clear hd
      conv => whnf
      refine deep_run hn (by omega) hsz ?_
      conv => whnf
      exact ⟨fun q => absurd q (by decide), fun _ => fin _⟩
    · exact ⟨(fun z => by cases z), fun _ => fin _⟩
  · exact ⟨(fun z => by cases z), fun _ => fin _⟩
theorem law_turns {n : Nat} {w : Int} {a b p q : List Mono} (hn : n ≤ 64) (ha : okI n a) (hb : okI n b) (hp : gatR 61 a p) (hq : gatR 61 b q) : wSs Γ (.cons (.forS (.tp (.cons (.nm 10) (.cons (.nm 11) .nil))) (.it (.lst irTurnL)) irTurnB) irLast) [.un, .val .tok, .val (.int w), .val (.int n), .val (rowsD a), .own (rowsD b), .un, .own (rowsD (a ++ negR a)), .val (objN n p), .val (objN n q), .un, .un, .un, .un] DL EL := by
  refine forS_lst ?_
  unfold irTurnL
  conv => whnf
  refine ⟨.inl rfl, ?_⟩
  conv => whnf
  rw [forQ_eq]
  show forL _ _ (([(p, a), (q, b), (p, a)] : List (List Mono × List Mono)).map (pairD n)) _
  refine forL_gen (pairD n) [(p, a), (q, b), (p, a)] (fun done rest ρ => ∃ s10 s11 s12, ρ = [.un, .val .tok, .val (.int w), .val (.int n), .val (rowsD a), .val (rowsD b), .un, .own (rowsD (a ++ negR a)), .val (objN n p), .val (objN n q), s10, s11, s12, .un]) ?_ ?_ ⟨_, _, _, rfl⟩
  · rintro ρ ⟨s10, s11, s12, rfl⟩
    exact law_end hn ha hp
  · rintro done x rest ρ nx bk he ⟨s10, s11, s12, rfl⟩ hnx -
    have hx : okI n x.2 ∧ gatR 61 x.2 x.1 := by
      have : x ∈ ([(p, a), (q, b), (p, a)] : List (List Mono × List Mono)) := by rw [he]; simp
      simp only [List.mem_cons, List.not_mem_nil, or_false] at this
      rcases this with rfl | rfl | rfl
      · exact ⟨ha, hp⟩
      · exact ⟨hb, hq⟩
      · exact ⟨ha, hp⟩
    exact turn hn hx.1 hx.2 fun s12 => hnx _ ⟨_, _, s12, rfl⟩
theorem val31 : wSs Γ ir31 (.un :: .val .tok :: List.replicate (N31.length - 2) .un) { nx := fun _ => False, rt := fun o d => o = false ∧ d = .bl true } fun _ _ => False := by
  show wSs Γ ir31 [.un, .val .tok, .un, .un, .un, .un, .un, .un, .un, .un, .un, .un, .un, .un] _ _
  conv => whnf
  refine VL.pick_run (Γ := Γ) (m := 11) rfl (by simp) (by show 13 ≤ 1000000; decide) fun d hd => ?_
  obtain ⟨w, rfl, w0, w6⟩ : ∃ t : Int, d = .int t ∧ 0 ≤ t ∧ t ≤ 6 := by
    have : d ∈ ([0, 0, 0, 1, 2, 3, 3, 4, 4, 5, 5, 5, 6] : List Int).map D.int := hd
    obtain ⟨t, ht, rfl⟩ := List.mem_map.mp this
    simp only [List.mem_cons, List.not_mem_nil, or_false] at ht
    exact ⟨t, rfl, by omega, by omega⟩
  clear hd
  conv => whnf
  refine VL.pick_run (Γ := Γ) (m := 11) rfl (by simp) (by show 12 ≤ 1000000; decide) fun d hd => ?_
  obtain ⟨n, rfl, hn⟩ : ∃ t : Nat, d = .int t ∧ t ≤ 64 := by
    have : d ∈ ([0, 1, 1, 1, 2, 2, 3, 4, 5, 6, 9, 64] : List Int).map D.int := hd
    obtain ⟨t, ht, rfl⟩ := List.mem_map.mp this
    simp only [List.mem_cons, List.not_mem_nil, or_false] at ht
    exact ⟨t.toNat, by congr 1; omega, by omega⟩
  clear hd
  conv => whnf
  refine items_run hn w0 w6 fun a ha => ?_
  conv => whnf
  refine items_run hn (w := 0) (by decide) (by decide) fun b hb => ?_
  have al := ha.2.2.1
  have bl := hb.2.2.1
  conv => whnf
  refine compL_gen rowD (fun _ => true) (fun r => rowD (r.1, -r.2)) (ρ := [.un, .val .tok, .val (.int w), .val (.int n), .val (rowsD a), .own (rowsD b), .un, .un, .un, .un, .un, .un, .un, .un]) (fun r => [.un, .val .tok, .val (.int w), .val (.int n), .val (rowsD a), .own (rowsD b), .val (rowD r), .un, .un, .un, .un, .un, .un, .un]) (fun _ => rfl) _ _ (by show 0 + a.length ≤ 1000000; omega) (fun r hr Ka Ks hK _ => ?_) ?_
  · conv => whnf
    refine ⟨fun _ => ?_, (fun z => by cases z)⟩
    conv => whnf
    refine ⟨_, rfl, ?_⟩
    conv => whnf
    refine ⟨_, rfl, ?_⟩
    exact hK rfl
  rw [List.filter_eq_self.mpr (fun _ _ => rfl), List.nil_append]
  have ee : D.lst (a.map rowD ++ a.map fun r => rowD (r.1, -r.2)) = rowsD (a ++ negR a) := by
    unfold rowsD negR
    rw [List.map_append, List.map_map]; rfl
  conv => whnf
  refine ⟨.inr rfl, ?_⟩
  conv => whnf
  refine ⟨by rw [List.length_map, List.length_map]; show _ ≤ 1000000; omega, ?_⟩
  conv => whnf
  refine shuf_run (Γ := Γ) (m := 12) rfl (by rw [List.length_map]; show _ ≤ 1000000; omega) fun es he => ?_
  obtain ⟨l, rfl, lp⟩ := back_rowsP he
  conv => whnf
  refine mk_run (n := n) (rs := l) rfl (by rw [lp.length_eq]; omega) (fun r hr => ha.1 r (lp.mem_iff.mp hr)) fun p hp0 => ?_
  have hp : gatR 61 a p := ⟨hp0.1, fun q c => by rw [hp0.2.1 q c, coef_perm lp], by rw [← lp.length_eq]; exact hp0.2.2⟩
  conv => whnf
  refine ⟨.inl rfl, ?_⟩
  conv => whnf
  refine mk_run (n := n) (rs := b) rfl (by omega) hb.1 fun q hq => ?_
  have := law_turns (w := w) hn ha hb hp hq
  rw [← ee] at this
  exact this

theorem law_ok {P : Program} {w : World} {K : PySem.W.Frag} {h : Heap} {mg : Str → Option Value} (X : K.In h) (G : h.Ns mainGlobals mg) (c : He.SaysD fa fn K) (exo : exO rs ts os K = true) :
    ∃ fd : FuncData, mg "law" = some (.ref (He.ga K "law")) ∧ (∀ (s : Shared) (v : Value), BindsTo s fd ⟨[v], []⟩ [("script", v)]) ∧ ∀ base : Heap, K.In base → base.Ns mainGlobals mg → FnOk P w K mg base CX0 14 (He.ga K "law") fd ["script"] (spLaw K) := by
  have ex := exO_ex exo
  obtain ⟨fd0, F0⟩ : ∃ fd, FunD K "_wall" "_wall" (defArgs (top 0)) (defBody (top 0)) (defScope (top 0)) [] [] (He.ga K "_wall") fd := c.def_ 0 (d := dd "_wall" 0) rfl
  have g0 : mg "_wall" = some (.ref (He.ga K "_wall")) := He.glo_ok X G (c.fact 0 (f := .glo "_wall") rfl)
  have b0 : Binds K fd0 ps0 [] := FunD.bindsN F0 fun _ _ _ _ _ _ us hl => match us, hl with | [_], _ => rfl
  obtain ⟨fd1, F1⟩ : ∃ fd, FunD K "number_power" "number_power" (defArgs (top 5)) (defBody (top 5)) (defScope (top 5)) [] [] (He.ga K "number_power") fd := c.def_ 1 (d := dd "number_power" 5) rfl
  have g1 : mg "number_power" = some (.ref (He.ga K "number_power")) := He.glo_ok X G (c.fact 1 (f := .glo "number_power") rfl)
  have b1 : Binds K fd1 ps1 [] := FunD.bindsN F1 fun _ _ _ _ _ _ us hl => match us, hl with | [_, _], _ => rfl
  obtain ⟨fd2, F2⟩ : ∃ fd, FunD K "gathered" "gathered" (defArgs (top 6)) (defBody (top 6)) (defScope (top 6)) [] [] (He.ga K "gathered") fd := c.def_ 2 (d := dd "gathered" 6) rfl
  have g2 : mg "gathered" = some (.ref (He.ga K "gathered")) := He.glo_ok X G (c.fact 2 (f := .glo "gathered") rfl)
  have b2 : Binds K fd2 ps2 [] := FunD.bindsN F2 fun _ _ _ _ _ _ us hl => match us, hl with | [_], _ => rfl
  obtain ⟨fd3, F3⟩ : ∃ fd, FunD K "check_many" "check_many" (defArgs (top 7)) (defBody (top 7)) (defScope (top 7)) [] [] (He.ga K "check_many") fd := c.def_ 3 (d := dd "check_many" 7) rfl
  have g3 : mg "check_many" = some (.ref (He.ga K "check_many")) := He.glo_ok X G (c.fact 3 (f := .glo "check_many") rfl)
  have b3 : Binds K fd3 ps3 [] := FunD.bindsN F3 fun _ _ _ _ _ _ us hl => match us, hl with | [_, _], _ => rfl
  obtain ⟨fd4, F4⟩ : ∃ fd, FunD K "constant" "constant" (defArgs (top 9)) (defBody (top 9)) (defScope (top 9)) [] [] (He.ga K "constant") fd := c.def_ 4 (d := dd "constant" 9) rfl
  have g4 : mg "constant" = some (.ref (He.ga K "constant")) := He.glo_ok X G (c.fact 4 (f := .glo "constant") rfl)
  have b4 : Binds K fd4 ps4 [] := FunD.bindsN F4 fun _ _ _ _ _ _ us hl => match us, hl with | [_, _], _ => rfl
  obtain ⟨fd5, F5⟩ : ∃ fd, FunD K "variable" "variable" (defArgs (top 10)) (defBody (top 10)) (defScope (top 10)) [] [] (He.ga K "variable") fd := c.def_ 5 (d := dd "variable" 10) rfl
  have g5 : mg "variable" = some (.ref (He.ga K "variable")) := He.glo_ok X G (c.fact 5 (f := .glo "variable") rfl)
  have b5 : Binds K fd5 ps5 [] := FunD.bindsN F5 fun _ _ _ _ _ _ us hl => match us, hl with | [_, _], _ => rfl
  obtain ⟨fd6, F6⟩ : ∃ fd, FunD K "least_number" "least_number" (defArgs (top 11)) (defBody (top 11)) (defScope (top 11)) [] [] (He.ga K "least_number") fd := c.def_ 6 (d := dd "least_number" 11) rfl
  have g6 : mg "least_number" = some (.ref (He.ga K "least_number")) := He.glo_ok X G (c.fact 6 (f := .glo "least_number") rfl)
  have b6 : Binds K fd6 ps6 [] := FunD.bindsN F6 fun _ _ _ _ _ _ us hl => match us, hl with | [_, _], _ => rfl
  obtain ⟨fd7, F7⟩ : ∃ fd, FunD K "least_point" "least_point" (defArgs (top 12)) (defBody (top 12)) (defScope (top 12)) [] [] (He.ga K "least_point") fd := c.def_ 7 (d := dd "least_point" 12) rfl
  have g7 : mg "least_point" = some (.ref (He.ga K "least_point")) := He.glo_ok X G (c.fact 7 (f := .glo "least_point") rfl)
  have b7 : Binds K fd7 ps7 [] := FunD.bindsN F7 fun _ _ _ _ _ _ us hl => match us, hl with | [_], _ => rfl
  obtain ⟨fd8, F8⟩ : ∃ fd, FunD K "_law_mix" "_law_mix" (defArgs (top 14)) (defBody (top 14)) (defScope (top 14)) [] [] (He.ga K "_law_mix") fd := c.def_ 8 (d := dd "_law_mix" 14) rfl
  have g8 : mg "_law_mix" = some (.ref (He.ga K "_law_mix")) := He.glo_ok X G (c.fact 8 (f := .glo "_law_mix") rfl)
  have b8 : Binds K fd8 ps8 [] := FunD.bindsN F8 fun _ _ _ _ _ _ us hl => match us, hl with | [_, _], _ => rfl
  obtain ⟨fd9, F9⟩ : ∃ fd, FunD K "_law_store" "_law_store" (defArgs (top 15)) (defBody (top 15)) (defScope (top 15)) [] [] (He.ga K "_law_store") fd := c.def_ 9 (d := dd "_law_store" 15) rfl
  have g9 : mg "_law_store" = some (.ref (He.ga K "_law_store")) := He.glo_ok X G (c.fact 9 (f := .glo "_law_store") rfl)
  have b9 : Binds K fd9 ps9 [] := FunD.bindsN F9 fun _ _ _ _ _ _ us hl => match us, hl with | [_], _ => rfl
  obtain ⟨fd10, F10⟩ : ∃ fd, FunD K "_law_take" "_law_take" (defArgs (top 16)) (defBody (top 16)) (defScope (top 16)) [] [] (He.ga K "_law_take") fd := c.def_ 10 (d := dd "_law_take" 16) rfl
  have g10 : mg "_law_take" = some (.ref (He.ga K "_law_take")) := He.glo_ok X G (c.fact 10 (f := .glo "_law_take") rfl)
  have b10 : Binds K fd10 ps10 [] := FunD.bindsN F10 fun _ _ _ _ _ _ us hl => match us, hl with | [_, _], _ => rfl
  obtain ⟨fd11, F11⟩ : ∃ fd, FunD K "_law_pick" "_law_pick" (defArgs (top 17)) (defBody (top 17)) (defScope (top 17)) [] [] (He.ga K "_law_pick") fd := c.def_ 11 (d := dd "_law_pick" 17) rfl
  have g11 : mg "_law_pick" = some (.ref (He.ga K "_law_pick")) := He.glo_ok X G (c.fact 11 (f := .glo "_law_pick") rfl)
  have b11 : Binds K fd11 ps11 [] := FunD.bindsN F11 fun _ _ _ _ _ _ us hl => match us, hl with | [_, _], _ => rfl
  obtain ⟨fd12, F12⟩ : ∃ fd, FunD K "_law_shuffle" "_law_shuffle" (defArgs (top 18)) (defBody (top 18)) (defScope (top 18)) [] [] (He.ga K "_law_shuffle") fd := c.def_ 12 (d := dd "_law_shuffle" 18) rfl
  have g12 : mg "_law_shuffle" = some (.ref (He.ga K "_law_shuffle")) := He.glo_ok X G (c.fact 12 (f := .glo "_law_shuffle") rfl)
  have b12 : Binds K fd12 ps12 [] := FunD.bindsN F12 fun _ _ _ _ _ _ us hl => match us, hl with | [_, _], _ => rfl
  obtain ⟨fd13, F13⟩ : ∃ fd, FunD K "_law_worth" "_law_worth" (defArgs (top 19)) (defBody (top 19)) (defScope (top 19)) [] [] (He.ga K "_law_worth") fd := c.def_ 13 (d := dd "_law_worth" 19) rfl
  have g13 : mg "_law_worth" = some (.ref (He.ga K "_law_worth")) := He.glo_ok X G (c.fact 13 (f := .glo "_law_worth") rfl)
  have b13 : Binds K fd13 ps13 [] := FunD.bindsN F13 fun _ _ _ _ _ _ us hl => match us, hl with | [_, _], _ => rfl
  obtain ⟨fd14, F14⟩ : ∃ fd, FunD K "_law_natural" "_law_natural" (defArgs (top 20)) (defBody (top 20)) (defScope (top 20)) [] [] (He.ga K "_law_natural") fd := c.def_ 14 (d := dd "_law_natural" 20) rfl
  have g14 : mg "_law_natural" = some (.ref (He.ga K "_law_natural")) := He.glo_ok X G (c.fact 14 (f := .glo "_law_natural") rfl)
  have b14 : Binds K fd14 ps14 [] := FunD.bindsN F14 fun _ _ _ _ _ _ us hl => match us, hl with | [_, _], _ => rfl
  obtain ⟨fd15, F15⟩ : ∃ fd, FunD K "_law_gathered" "_law_gathered" (defArgs (top 21)) (defBody (top 21)) (defScope (top 21)) [] [] (He.ga K "_law_gathered") fd := c.def_ 15 (d := dd "_law_gathered" 21) rfl
  have g15 : mg "_law_gathered" = some (.ref (He.ga K "_law_gathered")) := He.glo_ok X G (c.fact 15 (f := .glo "_law_gathered") rfl)
  have b15 : Binds K fd15 ps15 [] := FunD.bindsN F15 fun _ _ _ _ _ _ us hl => match us, hl with | [_], _ => rfl
  obtain ⟨fd16, F16⟩ : ∃ fd, FunD K "_law_times" "_law_times" (defArgs (top 22)) (defBody (top 22)) (defScope (top 22)) [] [] (He.ga K "_law_times") fd := c.def_ 16 (d := dd "_law_times" 22) rfl
  have g16 : mg "_law_times" = some (.ref (He.ga K "_law_times")) := He.glo_ok X G (c.fact 16 (f := .glo "_law_times") rfl)
  have b16 : Binds K fd16 ps16 [] := FunD.bindsN F16 fun _ _ _ _ _ _ us hl => match us, hl with | [_, _], _ => rfl
  obtain ⟨fd17, F17⟩ : ∃ fd, FunD K "_law_sole" "_law_sole" (defArgs (top 23)) (defBody (top 23)) (defScope (top 23)) [] [] (He.ga K "_law_sole") fd := c.def_ 17 (d := dd "_law_sole" 23) rfl
  have g17 : mg "_law_sole" = some (.ref (He.ga K "_law_sole")) := He.glo_ok X G (c.fact 17 (f := .glo "_law_sole") rfl)
  have b17 : Binds K fd17 ps17 [] := FunD.bindsN F17 fun _ _ _ _ _ _ us hl => match us, hl with | [_, _, _], _ => rfl
  obtain ⟨fd18, F18⟩ : ∃ fd, FunD K "_law_at" "_law_at" (defArgs (top 24)) (defBody (top 24)) (defScope (top 24)) [] [] (He.ga K "_law_at") fd := c.def_ 18 (d := dd "_law_at" 24) rfl
  have g18 : mg "_law_at" = some (.ref (He.ga K "_law_at")) := He.glo_ok X G (c.fact 18 (f := .glo "_law_at") rfl)
  have b18 : Binds K fd18 ps18 [] := FunD.bindsN F18 fun _ _ _ _ _ _ us hl => match us, hl with | [_, _], _ => rfl
  obtain ⟨fd19, F19⟩ : ∃ fd, FunD K "_law_raised" "_law_raised" (defArgs (top 25)) (defBody (top 25)) (defScope (top 25)) [] [] (He.ga K "_law_raised") fd := c.def_ 19 (d := dd "_law_raised" 25) rfl
  have g19 : mg "_law_raised" = some (.ref (He.ga K "_law_raised")) := He.glo_ok X G (c.fact 19 (f := .glo "_law_raised") rfl)
  have b19 : Binds K fd19 ps19 [] := FunD.bindsN F19 fun _ _ _ _ _ _ us hl => match us, hl with | [_, _], _ => rfl
  obtain ⟨fd20, F20⟩ : ∃ fd, FunD K "_law_kind" "_law_kind" (defArgs (top 26)) (defBody (top 26)) (defScope (top 26)) [] [] (He.ga K "_law_kind") fd := c.def_ 20 (d := dd "_law_kind" 26) rfl
  have g20 : mg "_law_kind" = some (.ref (He.ga K "_law_kind")) := He.glo_ok X G (c.fact 20 (f := .glo "_law_kind") rfl)
  have b20 : Binds K fd20 ps20 [] := FunD.bindsN F20 fun _ _ _ _ _ _ us hl => match us, hl with | [_], _ => rfl
  obtain ⟨fd21, F21⟩ : ∃ fd, FunD K "_law_same" "_law_same" (defArgs (top 27)) (defBody (top 27)) (defScope (top 27)) [] [] (He.ga K "_law_same") fd := c.def_ 21 (d := dd "_law_same" 27) rfl
  have g21 : mg "_law_same" = some (.ref (He.ga K "_law_same")) := He.glo_ok X G (c.fact 21 (f := .glo "_law_same") rfl)
  have b21 : Binds K fd21 ps21 [] := FunD.bindsN F21 fun _ _ _ _ _ _ us hl => match us, hl with | [_, _], _ => rfl
  obtain ⟨fd22, F22⟩ : ∃ fd, FunD K "_law_poly_is" "_law_poly_is" (defArgs (top 28)) (defBody (top 28)) (defScope (top 28)) [] [] (He.ga K "_law_poly_is") fd := c.def_ 22 (d := dd "_law_poly_is" 28) rfl
  have g22 : mg "_law_poly_is" = some (.ref (He.ga K "_law_poly_is")) := He.glo_ok X G (c.fact 22 (f := .glo "_law_poly_is") rfl)
  have b22 : Binds K fd22 ps22 [] := FunD.bindsN F22 fun _ _ _ _ _ _ us hl => match us, hl with | [_, _, _], _ => rfl
  obtain ⟨fd23, F23⟩ : ∃ fd, FunD K "_law_put_in" "_law_put_in" (defArgs (top 29)) (defBody (top 29)) (defScope (top 29)) [] [] (He.ga K "_law_put_in") fd := c.def_ 23 (d := dd "_law_put_in" 29) rfl
  have g23 : mg "_law_put_in" = some (.ref (He.ga K "_law_put_in")) := He.glo_ok X G (c.fact 23 (f := .glo "_law_put_in") rfl)
  have b23 : Binds K fd23 ps23 [] := FunD.bindsN F23 fun _ _ _ _ _ _ us hl => match us, hl with | [_, _, _], _ => rfl
  obtain ⟨fd24, F24⟩ : ∃ fd, FunD K "_law_wild" "_law_wild" (defArgs (top 30)) (defBody (top 30)) (defScope (top 30)) [] [] (He.ga K "_law_wild") fd := c.def_ 24 (d := dd "_law_wild" 30) rfl
  have g24 : mg "_law_wild" = some (.ref (He.ga K "_law_wild")) := He.glo_ok X G (c.fact 24 (f := .glo "_law_wild") rfl)
  have b24 : Binds K fd24 ps24 [] := FunD.bindsN F24 fun _ _ _ _ _ _ us hl => match us, hl with | [_, _, _, _], _ => rfl
  obtain ⟨fd25, F25⟩ : ∃ fd, FunD K "_law_rooted" "_law_rooted" (defArgs (top 31)) (defBody (top 31)) (defScope (top 31)) [] [] (He.ga K "_law_rooted") fd := c.def_ 25 (d := dd "_law_rooted" 31) rfl
  have g25 : mg "_law_rooted" = some (.ref (He.ga K "_law_rooted")) := He.glo_ok X G (c.fact 25 (f := .glo "_law_rooted") rfl)
  have b25 : Binds K fd25 ps25 [] := FunD.bindsN F25 fun _ _ _ _ _ _ us hl => match us, hl with | [_, _], _ => rfl
  obtain ⟨fd26, F26⟩ : ∃ fd, FunD K "_law_long" "_law_long" (defArgs (top 32)) (defBody (top 32)) (defScope (top 32)) [] [] (He.ga K "_law_long") fd := c.def_ 26 (d := dd "_law_long" 32) rfl
  have g26 : mg "_law_long" = some (.ref (He.ga K "_law_long")) := He.glo_ok X G (c.fact 26 (f := .glo "_law_long") rfl)
  have b26 : Binds K fd26 ps26 [] := FunD.bindsN F26 fun _ _ _ _ _ _ us hl => match us, hl with | [_, _], _ => rfl
  obtain ⟨fd27, F27⟩ : ∃ fd, FunD K "_law_least" "_law_least" (defArgs (top 33)) (defBody (top 33)) (defScope (top 33)) [] [] (He.ga K "_law_least") fd := c.def_ 27 (d := dd "_law_least" 33) rfl
  have g27 : mg "_law_least" = some (.ref (He.ga K "_law_least")) := He.glo_ok X G (c.fact 27 (f := .glo "_law_least") rfl)
  have b27 : Binds K fd27 ps27 [] := FunD.bindsN F27 fun _ _ _ _ _ _ us hl => match us, hl with | [_, _], _ => rfl
  obtain ⟨fd28, F28⟩ : ∃ fd, FunD K "_law_items" "_law_items" (defArgs (top 34)) (defBody (top 34)) (defScope (top 34)) [] [] (He.ga K "_law_items") fd := c.def_ 28 (d := dd "_law_items" 34) rfl
  have g28 : mg "_law_items" = some (.ref (He.ga K "_law_items")) := He.glo_ok X G (c.fact 28 (f := .glo "_law_items") rfl)
  have b28 : Binds K fd28 ps28 [] := FunD.bindsN F28 fun _ _ _ _ _ _ us hl => match us, hl with | [_, _, _], _ => rfl
  obtain ⟨fd29, F29⟩ : ∃ fd, FunD K "_law_point_right" "_law_point_right" (defArgs (top 35)) (defBody (top 35)) (defScope (top 35)) [] [] (He.ga K "_law_point_right") fd := c.def_ 29 (d := dd "_law_point_right" 35) rfl
  have g29 : mg "_law_point_right" = some (.ref (He.ga K "_law_point_right")) := He.glo_ok X G (c.fact 29 (f := .glo "_law_point_right") rfl)
  have b29 : Binds K fd29 ps29 [] := FunD.bindsN F29 fun _ _ _ _ _ _ us hl => match us, hl with | [_, _, _], _ => rfl
  obtain ⟨fd30, F30⟩ : ∃ fd, FunD K "_law_deep_right" "_law_deep_right" (defArgs (top 36)) (defBody (top 36)) (defScope (top 36)) [] [] (He.ga K "_law_deep_right") fd := c.def_ 30 (d := dd "_law_deep_right" 36) rfl
  have g30 : mg "_law_deep_right" = some (.ref (He.ga K "_law_deep_right")) := He.glo_ok X G (c.fact 30 (f := .glo "_law_deep_right") rfl)
  have b30 : Binds K fd30 ps30 [] := FunD.bindsN F30 fun _ _ _ _ _ _ us hl => match us, hl with | [_, _, _], _ => rfl
  obtain ⟨fd31, F31⟩ : ∃ fd, FunD K "law" "law" (defArgs (top 37)) (defBody (top 37)) (defScope (top 37)) [] [] (He.ga K "law") fd := c.def_ 31 (d := dd "law" 37) rfl
  have g31 : mg "law" = some (.ref (He.ga K "law")) := He.glo_ok X G (c.fact 31 (f := .glo "law") rfl)
  have b31 : Binds K fd31 ps31 [] := FunD.bindsN F31 fun _ _ _ _ _ _ us hl => match us, hl with | [_], _ => rfl
  obtain ⟨fdI0, FI0⟩ : ∃ fd, FunD K "__init__" "WrongShape.__init__" (defArgs (clsFn (top 3) 0)) (defBody (clsFn (top 3) 0)) (defScope (clsFn (top 3) 0)) [] [] (He.ma K (He.ga K "WrongShape") "__init__") fd := c.def_ 32 (d := ini "WrongShape" "WrongShape.__init__" (top 3) 0) rfl
  have bI0 : Binds K fdI0 ["self", "which"] [] := FunD.bindsN FI0 fun _ _ _ _ _ _ us hl => match us, hl with | [_, _], _ => rfl
  have rc0 := exI_rc ex 0 (r := ("WrongShape", ["which"])) rfl
  have gc0 : mg "WrongShape" = some (.ref (He.ga K "WrongShape")) := He.glo_ok X G (c.fact 32 (f := .glo "WrongShape") rfl)
  obtain ⟨fd32, F32⟩ : ∃ fd, FunD K "__init__" "Poly.__init__" (defArgs (clsFn (top 8) 0)) (defBody (clsFn (top 8) 0)) (defScope (clsFn (top 8) 0)) [] [] (He.ma K (He.ga K "Poly") "__init__") fd := c.def_ 33 (d := mdd "Poly" "__init__" "Poly.__init__" (top 8) 0) rfl
  have b32 : Binds K fd32 ["self", "many", "monomials"] [] := FunD.bindsN F32 fun _ _ _ _ _ _ us hl => match us, hl with | [_, _, _], _ => rfl
  obtain ⟨fdPoly_iter_, FPoly_iter_⟩ : ∃ fd, FunD K "__iter__" "Poly.__iter__" (defArgs (clsFn (top 8) 1)) (defBody (clsFn (top 8) 1)) (defScope (clsFn (top 8) 1)) [] [] (He.ma K (He.ga K "Poly") "__iter__") fd := c.def_ 34 (d := mdd "Poly" "__iter__" "Poly.__iter__" (top 8) 1) rfl
  have bPoly_iter_ : Binds K fdPoly_iter_ ["self"] [] := FunD.bindsN FPoly_iter_ fun _ _ _ _ _ _ us hl => match us, hl with | [_], _ => rfl
  obtain ⟨fd33, F33⟩ : ∃ fd, FunD K "__len__" "Poly.__len__" (defArgs (clsFn (top 8) 2)) (defBody (clsFn (top 8) 2)) (defScope (clsFn (top 8) 2)) [] [] (He.ma K (He.ga K "Poly") "__len__") fd := c.def_ 35 (d := mdd "Poly" "__len__" "Poly.__len__" (top 8) 2) rfl
  have b33 : Binds K fd33 ["self"] [] := FunD.bindsN F33 fun _ _ _ _ _ _ us hl => match us, hl with | [_], _ => rfl
  obtain ⟨fd34, F34⟩ : ∃ fd, FunD K "__sub__" "Poly.__sub__" (defArgs (clsFn (top 8) 5)) (defBody (clsFn (top 8) 5)) (defScope (clsFn (top 8) 5)) [] [] (He.ma K (He.ga K "Poly") "__sub__") fd := c.def_ 36 (d := mdd "Poly" "__sub__" "Poly.__sub__" (top 8) 5) rfl
  have b34 : Binds K fd34 ["self", "other"] [] := FunD.bindsN F34 fun _ _ _ _ _ _ us hl => match us, hl with | [_, _], _ => rfl
  obtain ⟨fd35, F35⟩ : ∃ fd, FunD K "__mul__" "Poly.__mul__" (defArgs (clsFn (top 8) 6)) (defBody (clsFn (top 8) 6)) (defScope (clsFn (top 8) 6)) [] [] (He.ma K (He.ga K "Poly") "__mul__") fd := c.def_ 37 (d := mdd "Poly" "__mul__" "Poly.__mul__" (top 8) 6) rfl
  have b35 : Binds K fd35 ["self", "other"] [] := FunD.bindsN F35 fun _ _ _ _ _ _ us hl => match us, hl with | [_, _], _ => rfl
  obtain ⟨fd36, F36⟩ : ∃ fd, FunD K "holds" "Poly.holds" (defArgs (clsFn (top 8) 10)) (defBody (clsFn (top 8) 10)) (defScope (clsFn (top 8) 10)) [] [] (He.ma K (He.ga K "Poly") "holds") fd := c.def_ 38 (d := mdd "Poly" "holds" "Poly.holds" (top 8) 10) rfl
  have b36 : Binds K fd36 ["self", "j"] [] := FunD.bindsN F36 fun _ _ _ _ _ _ us hl => match us, hl with | [_, _], _ => rfl
  obtain ⟨fd37, F37⟩ : ∃ fd, FunD K "fill_in" "Poly.fill_in" (defArgs (clsFn (top 8) 14)) (defBody (clsFn (top 8) 14)) (defScope (clsFn (top 8) 14)) [] [] (He.ma K (He.ga K "Poly") "fill_in") fd := c.def_ 39 (d := mdd "Poly" "fill_in" "Poly.fill_in" (top 8) 14) rfl
  have b37 : Binds K fd37 ["self", "j", "number"] [] := FunD.bindsN F37 fun _ _ _ _ _ _ us hl => match us, hl with | [_, _, _], _ => rfl
  have oc0 := exO_oc exo 0 (o := ("Poly", ["many", "monomials"], ["__init__", "__iter__", "__len__", "__sub__", "__mul__", "holds", "fill_in"])) rfl
  have go0 : mg "Poly" = some (.ref (He.ga K "Poly")) := He.glo_ok X G (c.fact 33 (f := .glo "Poly") rfl)
  have cons : ∀ x d, ccons.lookup x = some d → ConV (ctOf K cn) mg x d := look_nil
  have blt : ∀ x ∈ cblt, mg x = none := (mem_cons' (He.free_ok X G (c.fact 35 (f := .free "range") rfl)) (mem_cons' (He.free_ok X G (c.fact 36 (f := .free "enumerate") rfl)) (mem_cons' (He.free_ok X G (c.fact 37 (f := .free "int") rfl)) (mem_cons' (He.free_ok X G (c.fact 38 (f := .free "list") rfl)) (mem_cons' (He.free_ok X G (c.fact 39 (f := .free "tuple") rfl)) (mem_cons' (He.free_ok X G (c.fact 40 (f := .free "isinstance") rfl)) (mem_cons' (He.free_ok X G (c.fact 41 (f := .free "bool") rfl)) (mem_cons' (He.free_ok X G (c.fact 42 (f := .free "str") rfl)) (mem_cons' (He.free_ok X G (c.fact 43 (f := .free "dict") rfl)) (mem_cons' (He.free_ok X G (c.fact 44 (f := .free "iter") rfl)) (mem_cons' (He.free_ok X G (c.fact 45 (f := .free "len") rfl)) (mem_cons' (He.free_ok X G (c.fact 46 (f := .free "any") rfl)) (mem_cons' (He.free_ok X G (c.fact 47 (f := .free "abs") rfl)) (mem_cons' (He.free_ok X G (c.fact 48 (f := .free "sorted") rfl)) (mem_cons' (He.free_ok X G (c.fact 49 (f := .free "zip") rfl)) (mem_cons' (He.free_ok X G (c.fact 50 (f := .free "sum") rfl)) (mem_cons' (He.free_ok X G (c.fact 51 (f := .free "min") rfl)) (mem_cons' (He.free_ok X G (c.fact 52 (f := .free "max") rfl)) mem_nil))))))))))))))))))
  have fl : ∀ f t cc i, cflds.lookup f = some t → t.lookup cc = some i → ((ctOf K cn).fld cc)[i]? = some f ∧ XfC K ((ctOf K cn).cls cc) ∧ PySem.W.findIn K (.ref ((ctOf K cn).cls cc)) f = some none := fun f t cc i hf => (show ∀ f t, cflds.lookup f = some t → ∀ cc i, t.lookup cc = some i → ((ctOf K cn).fld cc)[i]? = some f ∧ XfC K ((ctOf K cn).cls cc) ∧ PySem.W.findIn K (.ref ((ctOf K cn).cls cc)) f = some none from (look_cons ((look_cons ⟨rfl, rc0.f, rc0.no _ (by simp)⟩ look_nil)) look_nil)) f t hf cc i
  have ix : ∀ t tab, cisx.lookup t = some tab → IsV (ctOf K cn) mg t tab := look_nil
  have ofl : ∀ f cc i, cofl.lookup f = some (cc, i) → FldO (ctOf K cn) K f cc i := fun f cc i hf => (show ∀ f r, cofl.lookup f = some r → FldO (ctOf K cn) K f r.1 r.2 from (look_cons ⟨fun vs hl => zip_at (fs := ["many", "monomials"]) (by decide) rfl hl, oc0.c, oc0.no _ (by decide)⟩ (look_cons ⟨fun vs hl => zip_at (fs := ["many", "monomials"]) (by decide) rfl hl, oc0.c, oc0.no _ (by decide)⟩ look_nil))) f (cc, i) hf
  refine ⟨fd31, g31, fun s v => FunD.bindsA (ps := ["script"]) F31 (fun _ _ _ _ _ _ us hl => match us, hl with | [_], _ => rfl) s [v] rfl, fun base _ _ => ?_⟩
  have R0 : RaiseV (ctOf K cn) P w mg base "WrongShape" 0 1 2 := ⟨rfl, 1, _, _, _, by decide, gc0, rc0.o, rc0.i, rc0.t, init1 FI0 ⟨rfl, rfl, rfl, by decide +kernel, rfl, by decide +kernel, by decide +kernel⟩ (by decide +kernel) rc0.o (rc0.no _ (by simp)), bI0, (show 1 ≤ 1000 by decide), fo1 rfl⟩
  have m_len : mg "len" = none := He.free_ok X G (c.fact 45 (f := .free "len") rfl)
  have m_int : mg "int" = none := He.free_ok X G (c.fact 37 (f := .free "int") rfl)
  have m_abs : mg "abs" = none := He.free_ok X G (c.fact 47 (f := .free "abs") rfl)
  have m_range : mg "range" = none := He.free_ok X G (c.fact 35 (f := .free "range") rfl)
  have m_enumerate : mg "enumerate" = none := He.free_ok X G (c.fact 36 (f := .free "enumerate") rfl)
  have O8 : FnOk P w K mg base (L2N.CX P w) 1 _ _ ["cell", "turn"] (NL.spMix NL.mixV) := ok_mix F8 sc8 m_len m_int m_abs m_range (by decide +kernel) ir8N_eq
  have O10 : Fct (ctOf K cn) Γ P w K mg base "_law_take" 10 2 := fct_take rfl (ok_take (C := (ctOf K cn)) rfl F10 sc10 m_len m_int m_abs m_range O8 g8 F8.kp b8 ir10N_eq) g10 F10.kp b10
  have O9 : FnOk P w K mg base (L2N.CX P w) 2 _ _ ["script"] (spStore K) := ok_store (K := K) (P := P) (w := w) (mg := mg) (base := base) rfl F9 sc9 (by decide +kernel) (by decide +kernel) (by decide +kernel) (by decide +kernel) (by decide +kernel) m_len m_int m_abs m_range m_enumerate O8 g8 F8.kp b8
  have I0 : FnS P w K mg base (L2N.CX P w) 1 _ _ ["self"] (spIter (ctOf K cn) K 1 1) := fn_iter (C := (ctOf K cn)) (c := 1) rfl FPoly_iter_ ⟨rfl, rfl, rfl, by decide +kernel, rfl, by decide +kernel, by decide +kernel⟩ (by decide +kernel) (by decide +kernel) (He.free_ok X G (c.fact 44 (f := .free "iter") rfl)) oc0.c (oc0.no _ (by decide)) fun vs hl => zip_at (fs := ["many", "monomials"]) (by decide) rfl hl
  have Il0 : FnOk P w K mg base (L2N.CX P w) 1 _ _ ["self"] (spLen (ctOf K cn) K 1 1) := fn_len (C := (ctOf K cn)) (c := 1) rfl F33 ⟨rfl, rfl, rfl, by decide +kernel, rfl, by decide +kernel, by decide +kernel⟩ (by decide +kernel) (by decide +kernel) m_len oc0.c (oc0.no _ (by decide)) fun vs hl => zip_at (fs := ["many", "monomials"]) (by decide) rfl hl
  have it0 : ∀ l, 1 + 4 ≤ l → IterV (ctOf K cn) Γ P w mg base 1 1 l := fun l h => ⟨1, _, _, _, I0, by omega, (oc0.m "__iter__" (by decide)).1.at_, (oc0.m "__iter__" (by decide)).1.fn, bPoly_iter_, oc0.hint, .inr ⟨_, _, _, 1, Il0, h, (oc0.m "__len__" (by decide)).1.at_, (oc0.m "__len__" (by decide)).1.fn, b33⟩⟩
  have M0 : Mod (ctOf K cn) Γ P w mg base cc0 2 := ⟨fun _ => look_nil, (fun z => absurd (show false = true from z) (by decide)), cons, blt, fl, ix, fun _ => (rz_cons (R0.mono (by decide)) rz_nil), fun _ => look_nil, fun _ => look_nil, ofl, fun _ m cc k hf => (show ∀ m r, cc0.mtd.lookup m = some r → MtdV (ctOf K cn) Γ P w mg base m r.1 r.2 2 from look_nil) m (cc, k) hf, fun _ cc i h => nomatch h⟩
  have O0 : Fct (ctOf K cn) Γ P w K mg base "_wall" 0 3 := ⟨_, _, ps0, fn_vl M0 F0 sc0 rfl rfl ir0_eq (fun x => by first | rfl | exact Empty.elim x) val0, g0, F0.kp, b0⟩
  have M1 : Mod (ctOf K cn) Γ P w mg base cc1 2 := ⟨fun _ => look_nil, (fun z => absurd (show false = true from z) (by decide)), cons, blt, fl, ix, fun _ => (rz_cons (R0.mono (by decide)) rz_nil), fun _ => look_nil, fun _ => look_nil, ofl, fun _ m cc k hf => (show ∀ m r, cc1.mtd.lookup m = some r → MtdV (ctOf K cn) Γ P w mg base m r.1 r.2 2 from look_nil) m (cc, k) hf, fun _ cc i h => nomatch h⟩
  have O1 : Fct (ctOf K cn) Γ P w K mg base "number_power" 1 3 := ⟨_, _, ps1, fn_vl M1 F1 sc1 rfl rfl ir1_eq (fun x => by first | rfl | exact Empty.elim x) val1, g1, F1.kp, b1⟩
  have M2 : Mod (ctOf K cn) Γ P w mg base cc2 2 := ⟨fun _ => look_nil, (fun z => absurd (show false = true from z) (by decide)), cons, blt, fl, ix, fun _ => (rz_cons (R0.mono (by decide)) rz_nil), fun _ => look_nil, fun _ => look_nil, ofl, fun _ m cc k hf => (show ∀ m r, cc2.mtd.lookup m = some r → MtdV (ctOf K cn) Γ P w mg base m r.1 r.2 2 from look_nil) m (cc, k) hf, fun _ cc i h => nomatch h⟩
  have O2 : Fct (ctOf K cn) Γ P w K mg base "gathered" 2 3 := ⟨_, _, ps2, fn_vl M2 F2 sc2 rfl rfl ir2_eq (fun x => by first | rfl | exact Empty.elim x) val2, g2, F2.kp, b2⟩
  have M3 : Mod (ctOf K cn) Γ P w mg base cc3 2 := ⟨fun _ => look_nil, (fun z => absurd (show false = true from z) (by decide)), cons, blt, fl, ix, fun _ => (rz_cons (R0.mono (by decide)) rz_nil), fun _ => look_nil, fun _ => look_nil, ofl, fun _ m cc k hf => (show ∀ m r, cc3.mtd.lookup m = some r → MtdV (ctOf K cn) Γ P w mg base m r.1 r.2 2 from look_nil) m (cc, k) hf, fun _ cc i h => nomatch h⟩
  have O3 : Fct (ctOf K cn) Γ P w K mg base "check_many" 3 3 := ⟨_, _, ps3, fn_vl M3 F3 sc3 rfl rfl ir3_eq (fun x => by first | rfl | exact Empty.elim x) val3, g3, F3.kp, b3⟩
  have M11 : Mod (ctOf K cn) Γ P w mg base cc11 2 := ⟨fun _ => (look_cons (O10.mono (by decide)) look_nil), (fun z => absurd (show false = true from z) (by decide)), cons, blt, fl, ix, fun _ => (rz_cons (R0.mono (by decide)) rz_nil), fun _ => look_nil, fun _ => look_nil, ofl, fun _ m cc k hf => (show ∀ m r, cc11.mtd.lookup m = some r → MtdV (ctOf K cn) Γ P w mg base m r.1 r.2 2 from look_nil) m (cc, k) hf, fun _ cc i h => nomatch h⟩
  have O11 : Fct (ctOf K cn) Γ P w K mg base "_law_pick" 11 3 := ⟨_, _, ps11, fn_vl M11 F11 sc11 rfl rfl ir11_eq (fun x => by first | rfl | exact Empty.elim x) val11, g11, F11.kp, b11⟩
  have M12 : Mod (ctOf K cn) Γ P w mg base cc12 2 := ⟨fun _ => (look_cons (O10.mono (by decide)) look_nil), (fun z => absurd (show false = true from z) (by decide)), cons, blt, fl, ix, fun _ => (rz_cons (R0.mono (by decide)) rz_nil), fun _ => look_nil, fun _ => look_nil, ofl, fun _ m cc k hf => (show ∀ m r, cc12.mtd.lookup m = some r → MtdV (ctOf K cn) Γ P w mg base m r.1 r.2 2 from look_nil) m (cc, k) hf, fun _ cc i h => nomatch h⟩
  have O12 : Fct (ctOf K cn) Γ P w K mg base "_law_shuffle" 12 3 := ⟨_, _, ps12, fn_vl M12 F12 sc12 rfl rfl ir12_eq (fun x => by first | rfl | exact Empty.elim x) val12, g12, F12.kp, b12⟩
  have M13 : Mod (ctOf K cn) Γ P w mg base cc13 2 := ⟨fun _ => (look_cons (O10.mono (by decide)) look_nil), (fun z => absurd (show false = true from z) (by decide)), cons, blt, fl, ix, fun _ => (rz_cons (R0.mono (by decide)) rz_nil), fun _ => look_nil, fun _ => look_nil, ofl, fun _ m cc k hf => (show ∀ m r, cc13.mtd.lookup m = some r → MtdV (ctOf K cn) Γ P w mg base m r.1 r.2 2 from look_nil) m (cc, k) hf, fun _ cc i h => nomatch h⟩
  have O13 : Fct (ctOf K cn) Γ P w K mg base "_law_worth" 13 3 := ⟨_, _, ps13, fn_vl M13 F13 sc13 rfl rfl ir13_eq (fun x => by first | rfl | exact Empty.elim x) val13, g13, F13.kp, b13⟩
  have M14 : Mod (ctOf K cn) Γ P w mg base cc14 2 := ⟨fun _ => (look_cons (O10.mono (by decide)) look_nil), (fun z => absurd (show false = true from z) (by decide)), cons, blt, fl, ix, fun _ => (rz_cons (R0.mono (by decide)) rz_nil), fun _ => look_nil, fun _ => look_nil, ofl, fun _ m cc k hf => (show ∀ m r, cc14.mtd.lookup m = some r → MtdV (ctOf K cn) Γ P w mg base m r.1 r.2 2 from look_nil) m (cc, k) hf, fun _ cc i h => nomatch h⟩
  have O14 : Fct (ctOf K cn) Γ P w K mg base "_law_natural" 14 3 := ⟨_, _, ps14, fn_vl M14 F14 sc14 rfl rfl ir14_eq (fun x => by first | rfl | exact Empty.elim x) val14, g14, F14.kp, b14⟩
  have M15 : Mod (ctOf K cn) Γ P w mg base cc15 2 := ⟨fun _ => look_nil, (fun z => absurd (show false = true from z) (by decide)), cons, blt, fl, ix, fun _ => (rz_cons (R0.mono (by decide)) rz_nil), fun _ => look_nil, fun _ => look_nil, ofl, fun _ m cc k hf => (show ∀ m r, cc15.mtd.lookup m = some r → MtdV (ctOf K cn) Γ P w mg base m r.1 r.2 2 from look_nil) m (cc, k) hf, fun _ cc i h => nomatch h⟩
  have O15 : Fct (ctOf K cn) Γ P w K mg base "_law_gathered" 15 3 := ⟨_, _, ps15, fn_vl M15 F15 sc15 rfl rfl ir15_eq (fun x => by first | rfl | exact Empty.elim x) val15, g15, F15.kp, b15⟩
  have M16 : Mod (ctOf K cn) Γ P w mg base cc16 2 := ⟨fun _ => look_nil, (fun z => absurd (show false = true from z) (by decide)), cons, blt, fl, ix, fun _ => (rz_cons (R0.mono (by decide)) rz_nil), fun _ => look_nil, fun _ => look_nil, ofl, fun _ m cc k hf => (show ∀ m r, cc16.mtd.lookup m = some r → MtdV (ctOf K cn) Γ P w mg base m r.1 r.2 2 from look_nil) m (cc, k) hf, fun _ cc i h => nomatch h⟩
  have O16 : Fct (ctOf K cn) Γ P w K mg base "_law_times" 16 3 := ⟨_, _, ps16, fn_vl M16 F16 sc16 rfl rfl ir16_eq (fun x => by first | rfl | exact Empty.elim x) val16, g16, F16.kp, b16⟩
  have M18 : Mod (ctOf K cn) Γ P w mg base cc18 2 := ⟨fun _ => look_nil, (fun z => absurd (show false = true from z) (by decide)), cons, blt, fl, ix, fun _ => (rz_cons (R0.mono (by decide)) rz_nil), fun _ => look_nil, fun _ => look_nil, ofl, fun _ m cc k hf => (show ∀ m r, cc18.mtd.lookup m = some r → MtdV (ctOf K cn) Γ P w mg base m r.1 r.2 2 from look_nil) m (cc, k) hf, fun _ cc i h => nomatch h⟩
  have O18 : Fct (ctOf K cn) Γ P w K mg base "_law_at" 18 3 := ⟨_, _, ps18, fn_vl M18 F18 sc18 rfl rfl ir18_eq (fun x => by first | rfl | exact Empty.elim x) val18, g18, F18.kp, b18⟩
  have M19 : Mod (ctOf K cn) Γ P w mg base cc19 2 := ⟨fun _ => look_nil, (fun z => absurd (show false = true from z) (by decide)), cons, blt, fl, ix, fun _ => (rz_cons (R0.mono (by decide)) rz_nil), fun _ => look_nil, fun _ => look_nil, ofl, fun _ m cc k hf => (show ∀ m r, cc19.mtd.lookup m = some r → MtdV (ctOf K cn) Γ P w mg base m r.1 r.2 2 from look_nil) m (cc, k) hf, fun _ cc i h => nomatch h⟩
  have O19 : Fct (ctOf K cn) Γ P w K mg base "_law_raised" 19 3 := ⟨_, _, ps19, fn_vl M19 F19 sc19 rfl rfl ir19_eq (fun x => by first | rfl | exact Empty.elim x) val19, g19, F19.kp, b19⟩
  have M20 : Mod (ctOf K cn) Γ P w mg base cc20 2 := ⟨fun _ => look_nil, (fun z => absurd (show false = true from z) (by decide)), cons, blt, fl, ix, fun _ => (rz_cons (R0.mono (by decide)) rz_nil), fun _ => look_nil, fun _ => look_nil, ofl, fun _ m cc k hf => (show ∀ m r, cc20.mtd.lookup m = some r → MtdV (ctOf K cn) Γ P w mg base m r.1 r.2 2 from look_nil) m (cc, k) hf, fun _ cc i h => nomatch h⟩
  have O20 : Fct (ctOf K cn) Γ P w K mg base "_law_kind" 20 3 := ⟨_, _, ps20, fn_vl M20 F20 sc20 rfl rfl ir20_eq (fun x => by first | rfl | exact Empty.elim x) val20, g20, F20.kp, b20⟩
  have M33 : Mod (ctOf K cn) Γ P w mg base cc33 2 := ⟨fun _ => look_nil, (fun z => absurd (show false = true from z) (by decide)), cons, blt, fl, ix, fun _ => (rz_cons (R0.mono (by decide)) rz_nil), fun _ => look_nil, fun _ => look_nil, ofl, fun _ m cc k hf => (show ∀ m r, cc33.mtd.lookup m = some r → MtdV (ctOf K cn) Γ P w mg base m r.1 r.2 2 from look_nil) m (cc, k) hf, fun _ cc i h => nomatch h⟩
  have mt33 : ∀ l, 3 + 4 ≤ l → MtdV (ctOf K cn) Γ P w mg base "__len__" 1 33 l := fun l h => ⟨3, _, _, ps33, fn_vl M33 F33 sc33 rfl rfl ir33_eq (fun _ => rfl) val33, (oc0.m _ (by decide)).1, oc0.c, b33, zip_no (fs := ["many", "monomials"]) (by decide), oc0.sf, oc0.nf, (oc0.m _ (by decide)).2, h⟩
  have M36 : Mod (ctOf K cn) Γ P w mg base cc36 2 := ⟨fun _ => look_nil, (fun z => absurd (show false = true from z) (by decide)), cons, blt, fl, ix, fun _ => (rz_cons (R0.mono (by decide)) rz_nil), fun _ => look_nil, fun _ => look_nil, ofl, fun _ m cc k hf => (show ∀ m r, cc36.mtd.lookup m = some r → MtdV (ctOf K cn) Γ P w mg base m r.1 r.2 2 from look_nil) m (cc, k) hf, fun _ cc i h => nomatch h⟩
  have mt36 : ∀ l, 3 + 4 ≤ l → MtdV (ctOf K cn) Γ P w mg base "holds" 1 36 l := fun l h => ⟨3, _, _, ps36, fn_vl M36 F36 sc36 rfl rfl ir36_eq (fun _ => rfl) val36, (oc0.m _ (by decide)).1, oc0.c, b36, zip_no (fs := ["many", "monomials"]) (by decide), oc0.sf, oc0.nf, (oc0.m _ (by decide)).2, h⟩
  have M17 : Mod (ctOf K cn) Γ P w mg base cc17 3 := ⟨fun _ => (look_cons (O15.mono (by decide)) look_nil), (fun z => absurd (show false = true from z) (by decide)), cons, blt, fl, ix, fun _ => (rz_cons (R0.mono (by decide)) rz_nil), fun _ => look_nil, fun _ => look_nil, ofl, fun _ m cc k hf => (show ∀ m r, cc17.mtd.lookup m = some r → MtdV (ctOf K cn) Γ P w mg base m r.1 r.2 3 from look_nil) m (cc, k) hf, fun _ cc i h => nomatch h⟩
  have O17 : Fct (ctOf K cn) Γ P w K mg base "_law_sole" 17 4 := ⟨_, _, ps17, fn_vl M17 F17 sc17 rfl rfl ir17_eq (fun x => by first | rfl | exact Empty.elim x) val17, g17, F17.kp, b17⟩
  have M21 : Mod (ctOf K cn) Γ P w mg base cc21 3 := ⟨fun _ => (look_cons (O20.mono (by decide)) look_nil), (fun z => absurd (show false = true from z) (by decide)), cons, blt, fl, ix, fun _ => (rz_cons (R0.mono (by decide)) rz_nil), fun _ => look_nil, fun _ => look_nil, ofl, fun _ m cc k hf => (show ∀ m r, cc21.mtd.lookup m = some r → MtdV (ctOf K cn) Γ P w mg base m r.1 r.2 3 from look_nil) m (cc, k) hf, fun _ cc i h => nomatch h⟩
  have O21 : Fct (ctOf K cn) Γ P w K mg base "_law_same" 21 4 := ⟨_, _, ps21, fn_vl M21 F21 sc21 rfl rfl ir21_eq (fun x => by first | rfl | exact Empty.elim x) val21, g21, F21.kp, b21⟩
  have M23 : Mod (ctOf K cn) Γ P w mg base cc23 3 := ⟨fun _ => (look_cons (O15.mono (by decide)) (look_cons (O19.mono (by decide)) look_nil)), (fun z => absurd (show false = true from z) (by decide)), cons, blt, fl, ix, fun _ => (rz_cons (R0.mono (by decide)) rz_nil), fun _ => look_nil, fun _ => look_nil, ofl, fun _ m cc k hf => (show ∀ m r, cc23.mtd.lookup m = some r → MtdV (ctOf K cn) Γ P w mg base m r.1 r.2 3 from look_nil) m (cc, k) hf, fun _ cc i h => nomatch h⟩
  have O23 : Fct (ctOf K cn) Γ P w K mg base "_law_put_in" 23 4 := ⟨_, _, ps23, fn_vl M23 F23 sc23 rfl rfl ir23_eq (fun x => by first | rfl | exact Empty.elim x) val23, g23, F23.kp, b23⟩
  have M24 : Mod (ctOf K cn) Γ P w mg base cc24 3 := ⟨fun _ => (look_cons (O10.mono (by decide)) (look_cons (O13.mono (by decide)) (look_cons (O14.mono (by decide)) look_nil))), (fun z => absurd (show false = true from z) (by decide)), cons, blt, fl, ix, fun _ => (rz_cons (R0.mono (by decide)) rz_nil), fun _ => look_nil, fun _ => look_nil, ofl, fun _ m cc k hf => (show ∀ m r, cc24.mtd.lookup m = some r → MtdV (ctOf K cn) Γ P w mg base m r.1 r.2 3 from look_nil) m (cc, k) hf, fun _ cc i h => nomatch h⟩
  have O24 : Fct (ctOf K cn) Γ P w K mg base "_law_wild" 24 4 := ⟨_, _, ps24, fn_vl M24 F24 sc24 rfl rfl ir24_eq (fun x => by first | rfl | exact Empty.elim x) val24, g24, F24.kp, b24⟩
  have M26 : Mod (ctOf K cn) Γ P w mg base cc26 3 := ⟨fun _ => (look_cons (O10.mono (by decide)) (look_cons (O11.mono (by decide)) look_nil)), (fun z => absurd (show false = true from z) (by decide)), cons, blt, fl, ix, fun _ => (rz_cons (R0.mono (by decide)) rz_nil), fun _ => look_nil, fun _ => look_nil, ofl, fun _ m cc k hf => (show ∀ m r, cc26.mtd.lookup m = some r → MtdV (ctOf K cn) Γ P w mg base m r.1 r.2 3 from look_nil) m (cc, k) hf, fun _ cc i h => nomatch h⟩
  have O26 : Fct (ctOf K cn) Γ P w K mg base "_law_long" 26 4 := ⟨_, _, ps26, fn_vl M26 F26 sc26 rfl rfl ir26_eq (fun x => by first | rfl | exact Empty.elim x) val26, g26, F26.kp, b26⟩
  have M32 : Mod (ctOf K cn) Γ P w mg base cc32 3 := ⟨fun _ => (look_cons (O2.mono (by decide)) look_nil), (fun z => absurd (show false = true from z) (by decide)), cons, blt, fl, ix, fun _ => (rz_cons (R0.mono (by decide)) rz_nil), fun _ => look_nil, fun _ => look_nil, ofl, fun _ m cc k hf => (show ∀ m r, cc32.mtd.lookup m = some r → MtdV (ctOf K cn) Γ P w mg base m r.1 r.2 3 from look_nil) m (cc, k) hf, fun _ cc i h => nomatch h⟩
  have mk0 : ∀ l, 4 + 1 ≤ l → MkV (ctOf K cn) Γ P w mg base "Poly" 32 l := fun l h => ⟨1, 4, _, _, ps32, fn_init (c := 1) M32 F32 sc32 rfl rfl oc0.c oc0.no (show (["many", "monomials"] : List Str).Nodup by decide) (show (["many", "monomials"] : List Str).length < 1000 by decide) rfl (by decide +kernel) ir32_eq rfl (fun _ => rfl) val32, h, oc0.made (by decide), go0, b32, obj32⟩
  have M25 : Mod (ctOf K cn) Γ P w mg base cc25 4 := ⟨fun _ => (look_cons (O10.mono (by decide)) (look_cons (O11.mono (by decide)) (look_cons (O16.mono (by decide)) (look_cons (O17.mono (by decide)) look_nil)))), (fun z => absurd (show false = true from z) (by decide)), cons, blt, fl, ix, fun _ => (rz_cons (R0.mono (by decide)) rz_nil), fun _ => look_nil, fun _ => look_nil, ofl, fun _ m cc k hf => (show ∀ m r, cc25.mtd.lookup m = some r → MtdV (ctOf K cn) Γ P w mg base m r.1 r.2 4 from look_nil) m (cc, k) hf, fun _ cc i h => nomatch h⟩
  have O25 : Fct (ctOf K cn) Γ P w K mg base "_law_rooted" 25 5 := ⟨_, _, ps25, fn_vl M25 F25 sc25 rfl rfl ir25_eq (fun x => by first | rfl | exact Empty.elim x) val25, g25, F25.kp, b25⟩
  have M27 : Mod (ctOf K cn) Γ P w mg base cc27 4 := ⟨fun _ => (look_cons (O23.mono (by decide)) look_nil), (fun z => absurd (show false = true from z) (by decide)), cons, blt, fl, ix, fun _ => (rz_cons (R0.mono (by decide)) rz_nil), fun _ => look_nil, fun _ => look_nil, ofl, fun _ m cc k hf => (show ∀ m r, cc27.mtd.lookup m = some r → MtdV (ctOf K cn) Γ P w mg base m r.1 r.2 4 from look_nil) m (cc, k) hf, fun _ cc i h => nomatch h⟩
  have O27 : Fct (ctOf K cn) Γ P w K mg base "_law_least" 27 5 := ⟨_, _, ps27, fn_vl M27 F27 sc27 rfl rfl ir27_eq (fun x => by first | rfl | exact Empty.elim x) val27, g27, F27.kp, b27⟩
  have M4 : Mod (ctOf K cn) Γ P w mg base cc4 5 := ⟨fun _ => look_nil, (fun z => absurd (show false = true from z) (by decide)), cons, blt, fl, ix, fun _ => (rz_cons (R0.mono (by decide)) rz_nil), fun _ => look_nil, fun _ => (look_cons (mk0 _ (by decide)) look_nil), ofl, fun _ m cc k hf => (show ∀ m r, cc4.mtd.lookup m = some r → MtdV (ctOf K cn) Γ P w mg base m r.1 r.2 5 from look_nil) m (cc, k) hf, fun _ cc i h => nomatch h⟩
  have O4 : Fct (ctOf K cn) Γ P w K mg base "constant" 4 6 := ⟨_, _, ps4, fn_vl M4 F4 sc4 rfl rfl ir4_eq (fun x => by first | rfl | exact Empty.elim x) val4, g4, F4.kp, b4⟩
  have M5 : Mod (ctOf K cn) Γ P w mg base cc5 5 := ⟨fun _ => look_nil, (fun z => absurd (show false = true from z) (by decide)), cons, blt, fl, ix, fun _ => (rz_cons (R0.mono (by decide)) rz_nil), fun _ => look_nil, fun _ => (look_cons (mk0 _ (by decide)) look_nil), ofl, fun _ m cc k hf => (show ∀ m r, cc5.mtd.lookup m = some r → MtdV (ctOf K cn) Γ P w mg base m r.1 r.2 5 from look_nil) m (cc, k) hf, fun _ cc i h => nomatch h⟩
  have O5 : Fct (ctOf K cn) Γ P w K mg base "variable" 5 6 := ⟨_, _, ps5, fn_vl M5 F5 sc5 rfl rfl ir5_eq (fun x => by first | rfl | exact Empty.elim x) val5, g5, F5.kp, b5⟩
  have M28 : Mod (ctOf K cn) Γ P w mg base cc28 5 := ⟨fun _ => (look_cons (O10.mono (by decide)) (look_cons (O16.mono (by decide)) (look_cons (O24.mono (by decide)) (look_cons (O25.mono (by decide)) (look_cons (O26.mono (by decide)) look_nil))))), (fun z => absurd (show false = true from z) (by decide)), cons, blt, fl, ix, fun _ => (rz_cons (R0.mono (by decide)) rz_nil), fun _ => look_nil, fun _ => look_nil, ofl, fun _ m cc k hf => (show ∀ m r, cc28.mtd.lookup m = some r → MtdV (ctOf K cn) Γ P w mg base m r.1 r.2 5 from look_nil) m (cc, k) hf, fun _ cc i h => nomatch h⟩
  have O28 : Fct (ctOf K cn) Γ P w K mg base "_law_items" 28 6 := ⟨_, _, ps28, fn_vl M28 F28 sc28 rfl rfl ir28_eq (fun x => by first | rfl | exact Empty.elim x) val28, g28, F28.kp, b28⟩
  have M34 : Mod (ctOf K cn) Γ P w mg base cc34 5 := ⟨fun _ => (look_cons (O3.mono (by decide)) look_nil), (fun z => absurd (show false = true from z) (by decide)), cons, blt, fl, ix, fun _ => (rz_cons (R0.mono (by decide)) rz_nil), fun _ => look_nil, fun _ => (look_cons (mk0 _ (by decide)) look_nil), ofl, fun _ m cc k hf => (show ∀ m r, cc34.mtd.lookup m = some r → MtdV (ctOf K cn) Γ P w mg base m r.1 r.2 5 from look_nil) m (cc, k) hf, fun _ cc i h => nomatch h⟩
  have mt34 : ∀ l, 6 + 4 ≤ l → MtdV (ctOf K cn) Γ P w mg base "__sub__" 1 34 l := fun l h => ⟨6, _, _, ps34, fn_vl M34 F34 sc34 rfl rfl ir34_eq (fun _ => rfl) val34, (oc0.m _ (by decide)).1, oc0.c, b34, zip_no (fs := ["many", "monomials"]) (by decide), oc0.sf, oc0.nf, (oc0.m _ (by decide)).2, h⟩
  have M35 : Mod (ctOf K cn) Γ P w mg base cc35 5 := ⟨fun _ => (look_cons (O3.mono (by decide)) look_nil), (fun z => absurd (show false = true from z) (by decide)), cons, blt, fl, ix, fun _ => (rz_cons (R0.mono (by decide)) rz_nil), fun _ => look_nil, fun _ => (look_cons (mk0 _ (by decide)) look_nil), ofl, fun _ m cc k hf => (show ∀ m r, cc35.mtd.lookup m = some r → MtdV (ctOf K cn) Γ P w mg base m r.1 r.2 5 from look_nil) m (cc, k) hf, fun _ cc i h => nomatch h⟩
  have mt35 : ∀ l, 6 + 4 ≤ l → MtdV (ctOf K cn) Γ P w mg base "__mul__" 1 35 l := fun l h => ⟨6, _, _, ps35, fn_vl M35 F35 sc35 rfl rfl ir35_eq (fun _ => rfl) val35, (oc0.m _ (by decide)).1, oc0.c, b35, zip_no (fs := ["many", "monomials"]) (by decide), oc0.sf, oc0.nf, (oc0.m _ (by decide)).2, h⟩
  have M37 : Mod (ctOf K cn) Γ P w mg base cc37 5 := ⟨fun _ => (look_cons (O1.mono (by decide)) look_nil), (fun z => absurd (show false = true from z) (by decide)), cons, blt, fl, ix, fun _ => (rz_cons (R0.mono (by decide)) rz_nil), fun _ => look_nil, fun _ => (look_cons (mk0 _ (by decide)) look_nil), ofl, fun _ m cc k hf => (show ∀ m r, cc37.mtd.lookup m = some r → MtdV (ctOf K cn) Γ P w mg base m r.1 r.2 5 from look_nil) m (cc, k) hf, fun _ cc i h => nomatch h⟩
  have mt37 : ∀ l, 6 + 4 ≤ l → MtdV (ctOf K cn) Γ P w mg base "fill_in" 1 37 l := fun l h => ⟨6, _, _, ps37, fn_vl M37 F37 sc37 rfl rfl ir37_eq (fun _ => rfl) val37, (oc0.m _ (by decide)).1, oc0.c, b37, zip_no (fs := ["many", "monomials"]) (by decide), oc0.sf, oc0.nf, (oc0.m _ (by decide)).2, h⟩
  have M22 : Mod (ctOf K cn) Γ P w mg base cc22 7 := ⟨fun _ => (look_cons (O21.mono (by decide)) look_nil), (fun z => absurd (show false = true from z) (by decide)), cons, blt, fl, ix, fun _ => (rz_cons (R0.mono (by decide)) rz_nil), fun _ => look_nil, fun _ => look_nil, ofl, fun _ m cc k hf => (show ∀ m r, cc22.mtd.lookup m = some r → MtdV (ctOf K cn) Γ P w mg base m r.1 r.2 7 from (look_cons (mt33 _ (by decide)) look_nil)) m (cc, k) hf, fun _ cc i h => (by cases h; exact it0 _ (by decide))⟩
  have O22 : Fct (ctOf K cn) Γ P w K mg base "_law_poly_is" 22 8 := ⟨_, _, ps22, fn_vl M22 F22 sc22 rfl rfl ir22_eq (fun x => by first | rfl | exact Empty.elim x) val22, g22, F22.kp, b22⟩
  have M6 : Mod (ctOf K cn) Γ P w mg base cc6 10 := ⟨fun _ => look_nil, (fun z => absurd (show false = true from z) (by decide)), cons, blt, fl, ix, fun _ => (rz_cons (R0.mono (by decide)) rz_nil), fun _ => look_nil, fun _ => look_nil, ofl, fun _ m cc k hf => (show ∀ m r, cc6.mtd.lookup m = some r → MtdV (ctOf K cn) Γ P w mg base m r.1 r.2 10 from (look_cons (mt36 _ (by decide)) (look_cons (mt37 _ (by decide)) (look_cons (mt33 _ (by decide)) look_nil)))) m (cc, k) hf, fun _ cc i h => nomatch h⟩
  have O6 : Fct (ctOf K cn) Γ P w K mg base "least_number" 6 11 := ⟨_, _, ps6, fn_vl M6 F6 sc6 rfl rfl ir6_eq (fun x => by first | rfl | exact Empty.elim x) val6, g6, F6.kp, b6⟩
  have M7 : Mod (ctOf K cn) Γ P w mg base cc7 11 := ⟨fun _ => (look_cons (O6.mono (by decide)) look_nil), (fun z => absurd (show false = true from z) (by decide)), cons, blt, fl, ix, fun _ => (rz_cons (R0.mono (by decide)) rz_nil), fun _ => look_nil, fun _ => look_nil, ofl, fun _ m cc k hf => (show ∀ m r, cc7.mtd.lookup m = some r → MtdV (ctOf K cn) Γ P w mg base m r.1 r.2 11 from (look_cons (mt33 _ (by decide)) look_nil)) m (cc, k) hf, fun _ cc i h => nomatch h⟩
  have O7 : Fct (ctOf K cn) Γ P w K mg base "least_point" 7 12 := ⟨_, _, ps7, fn_vl M7 F7 sc7 rfl rfl ir7_eq (fun x => by first | rfl | exact Empty.elim x) val7, g7, F7.kp, b7⟩
  have M29 : Mod (ctOf K cn) Γ P w mg base cc29 12 := ⟨fun _ => (look_cons (O7.mono (by decide)) (look_cons (O18.mono (by decide)) (look_cons (O21.mono (by decide)) (look_cons (O22.mono (by decide)) (look_cons (O27.mono (by decide)) look_nil))))), (fun z => absurd (show false = true from z) (by decide)), cons, blt, fl, ix, fun _ => (rz_cons (R0.mono (by decide)) rz_nil), fun _ => look_nil, fun _ => look_nil, ofl, fun _ m cc k hf => (show ∀ m r, cc29.mtd.lookup m = some r → MtdV (ctOf K cn) Γ P w mg base m r.1 r.2 12 from look_nil) m (cc, k) hf, fun _ cc i h => nomatch h⟩
  have O29 : Fct (ctOf K cn) Γ P w K mg base "_law_point_right" 29 13 := ⟨_, _, ps29, fn_vl M29 F29 sc29 rfl rfl ir29_eq (fun x => by first | rfl | exact Empty.elim x) val29, g29, F29.kp, b29⟩
  have M30 : Mod (ctOf K cn) Γ P w mg base cc30 12 := ⟨fun _ => (look_cons (O4.mono (by decide)) (look_cons (O5.mono (by decide)) (look_cons (O7.mono (by decide)) (look_cons (O21.mono (by decide)) look_nil)))), (fun z => absurd (show false = true from z) (by decide)), cons, blt, fl, ix, fun _ => (rz_cons (R0.mono (by decide)) rz_nil), fun _ => look_nil, fun _ => look_nil, ofl, fun _ m cc k hf => (show ∀ m r, cc30.mtd.lookup m = some r → MtdV (ctOf K cn) Γ P w mg base m r.1 r.2 12 from (look_cons (mt34 _ (by decide)) (look_cons (mt35 _ (by decide)) look_nil))) m (cc, k) hf, fun _ cc i h => nomatch h⟩
  have O30 : Fct (ctOf K cn) Γ P w K mg base "_law_deep_right" 30 13 := ⟨_, _, ps30, fn_vl M30 F30 sc30 rfl rfl ir30_eq (fun x => by first | rfl | exact Empty.elim x) val30, g30, F30.kp, b30⟩
  have M31 : Mod (ctOf K cn) Γ P w mg base cc31 13 := ⟨fun _ => (look_cons (O7.mono (by decide)) (look_cons (O10.mono (by decide)) (look_cons (O11.mono (by decide)) (look_cons (O12.mono (by decide)) (look_cons (O15.mono (by decide)) (look_cons (O28.mono (by decide)) (look_cons (O29.mono (by decide)) (look_cons (O30.mono (by decide)) look_nil)))))))), (fun z => absurd (show false = true from z) (by decide)), cons, blt, fl, ix, fun _ => (rz_cons (R0.mono (by decide)) rz_nil), fun _ => look_nil, fun _ => (look_cons (mk0 _ (by decide)) look_nil), ofl, fun _ m cc k hf => (show ∀ m r, cc31.mtd.lookup m = some r → MtdV (ctOf K cn) Γ P w mg base m r.1 r.2 13 from (look_cons (mt34 _ (by decide)) look_nil)) m (cc, k) hf, fun _ cc i h => nomatch h⟩
  exact to_cx0 <| fn_law (C := (ctOf K cn)) (rest := (defBody (top 37)).tail) M31 F31 sc31 rfl rfl rfl rfl (by decide +kernel) (by first | exact .inl (by decide +kernel) | exact .inr (by decide +kernel)) (by decide +kernel) (O9.mono (by decide)) g9 F9.kp b9 ir31_eq val31
end Law
open PySem PySem.W PySem.Calls PyProof.Rows in
theorem law_holds : PySem.Challenge.rw_skipsnought_k14_least_point_of_a_poly.Holds := by
  w_on; o_law
  refine HandSHeadRun.head_any (r := Law.R) (q := view Law.R.prog [37]) (H := Law.hk) (ob := Law.ob) (M := 20000) (loose := Law.loose) (d := HandSHeadRun.topDef Law.R.prog 37) (kwd := []) Law.ob_eq
    (by kernel_rfl) (fun s => by kernel_rfl) Law.run (by kernel_rfl) (by kernel_rfl) (by kernel_rfl) (by rfl) (by first | assumption | decide +kernel) (by decide +kernel) ⟨rfl, rfl, rfl, rfl, rfl, by decide +kernel⟩ ?hw ?hc
  case hw => w_witness2
  case hc =>
    refine L2.walk_ofE (l := PySem.Challenge.rw_skipsnought_k14_least_point_of_a_poly) (n := 63) (k := 14) (x := "script") (CX := L2.CX0) rfl (by decide) (by kernel_rfl) ⟨rfl, by decide, by decide⟩ ?F (fun _ _ _ _ z => z)
    intro w mg fa h Y G hmg0
    obtain ⟨K, KX, c⟩ := Y
    have hmg : mg ("law" : PySem.Str) = some (.ref fa) := by
      have e : (HandSHeadRun.topDef Law.R.prog 37).name = ("law" : PySem.Str) := by kernel_rfl
      rw [← e]
      exact hmg0
    obtain ⟨fd, hg, hb, hF⟩ := Law.law_ok (P := (PySem.Challenge.rw_skipsnought_k14_least_point_of_a_poly).prog) (w := w) KX G c.t.d c.more
    have e := hmg.symm.trans hg
    cases e
    exact ⟨K, fd, VL.spLaw K, KX, hb, fun H a ns hl _ hS => ⟨a, ns, rfl, hS, fun _ => rfl⟩, hF⟩

theorem PySem.Challenge.cw_skipsnought_k14_least_point_of_a_poly_holds : PySem.Challenge.rw_skipsnought_k14_least_point_of_a_poly.Holds :=
  law_holds
