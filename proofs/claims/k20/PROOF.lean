import PyProof.Rows.All
import Wide.All
import OpenK.AllK
import Wide.FinOn
import HandS.ForMost
import HandS.Walk
import HandS.Wide
import HandS.TupAny
import HandS.TupMul
import HandS.SortInts
import HandS.IsInst
import HandS.More
import HandS.Conv
import HandS.Exc
import HandS.ExcOwn
import HandS.WordsExc
import HandS.Flow
import HandS.HotCalls
import HandS.ExcIs
import HandS.ExcField
import HandS.ExcInit
import KE.KExcIs
import HandS.Words
import HandS.Defaults
import KE.KStateDown
import Lean
import HandS.Ends
import HandS.Head0
import HandS.Head1
import HandS.Head2
import HandS.HeadEnd
import HandS.HeadHook1
import HandS.HeadHook2
import HandS.HeadHook3
import HandS.HeadHook4
import HandS.Small
import HandS.Codes
import PySem.Challenge.RW_skipsnought_k20_faces_and_supports
set_option Elab.async false
set_option linter.all false
set_option maxRecDepth 100000
set_option maxHeartbeats 4000000
/-! VL: a small language of values. Its programs are the defs' bodies without places; its reading speaks of data alone, no heap. -/
namespace VL
open PySem

/-! ### data -/
inductive D where
  | non | bl (b : Bool) | int (i : Int) | str (s : Str) | tok
  | tup (ds : List D) | lst (ds : List D)
  | dic (kvs : List (D × D))
  | obj (c : Nat) (fs : List D)
  | exn (c : Nat) (fs : List D)
  deriving Inhabited

/-- a local name's slot: nothing known; data that nobody changes any more; a list or dict of one's own -/
inductive Slot where
  | un | val (d : D) | own (d : D)
abbrev En := List Slot
/-- what an expression gives: data; a new list or dict; the own one of a slot -/
inductive R where
  | val (d : D) | tmp (d : D) | var (i : Nat) (d : D)
def R.d : R → D
  | .val d => d
  | .tmp d => d
  | .var _ d => d
/-- no part of it is an object -/
def D.scal : D → Bool
  | .non => true
  | .bl _ => true
  | .int _ => true
  | .str _ => true
  | _ => false
/-- an exception: its class, what it was made with -/
structure Exc where
  cls : Nat
  fs : List D

/-- what a def promises: its arguments by a witness, what it asks, what it hands back (own: a new list), what it raises -/
structure VSp where
  α : Type
  arg : α → List D
  pre : α → Prop
  post : α → Bool → D → Prop
  exc : α → Exc → Prop
@[irreducible] def VSp.run (s : VSp) (ds : List D) (K : Bool → D → Prop) (E : Exc → Prop) : Prop :=
  ∃ x : s.α, ds = s.arg x ∧ s.pre x ∧ (∀ o d, s.post x o d → K o d) ∧ ∀ e, s.exc x e → E e

/-! ### the language -/
inductive B where
  | len | abs | max | min | int | str | sum | any | all | sorted | list | tuple | bool | repr | range | set | dict
  deriving DecidableEq
/-- a class in isinstance -/
inductive Ty where
  | bi (n : String) | own (tab : List (Nat × Bool))
inductive M where
  | append | pop | extend | insert | index | count | get | join | upper | lower | split | startswith | replace | setdefault | items | keys | values | reverse | clear | sort | remove | partition | strip | isalpha | isdigit | isalnum
  deriving DecidableEq
mutual
inductive VE where
  | bad
  | var (i : Nat)
  | cst (d : D)
  | bin (op : Operator) (a b : VE)
  | neg (a : VE)
  | notE (a : VE)
  | cmp (op : CmpOp) (a b : VE)
  | chn (op op' : CmpOp) (a b c : VE)
  | andE (a b : VE)
  | orE (a b : VE)
  | ife (t : VC) (a b : VE)
  | tup (es : VEs)
  | lst (es : VEs)
  | ix (a i : VE)
  | sl (a : VE) (lo hi : VO)
  | fld (a : VE) (tab : List (Nat × Nat))
  | call (n : Nat) (es : VEs)
  | blt (b : B) (es : VEs)
  | isin (a : VE) (t : Ty)
  | met (m : M) (a : VE) (es : VEs)
  | comp (own : List Nat) (elt : VE) (g : VG) (it : VI) (ifs : VC)
  | lrg (a : VO) (b : VE)
inductive VC where
  | tv (e : VE)
  | tnot (t : VC)
  | tand (t u : VC)
  | tor (t u : VC)
  | tyes
inductive VEs where
  | nil
  | cons (e : VE) (es : VEs)
inductive VO where
  | none
  | some (e : VE)
inductive VI where
  | it (e : VE)
  | rng (es : VEs)
  | enum (e : VE)
  | zip (a b : VE)
inductive VG where
  | bad
  | nm (i : Nat)
  | tp (gs : VGs)
inductive VGs where
  | nil
  | cons (g : VG) (gs : VGs)
end
mutual
inductive VS where
  | bad
  | pass
  | brk
  | cnt
  | ret (e : VE)
  | retN
  | ex (e : VE)
  | asg (g : VG) (e : VE)
  | par (i j : Nat) (a b : VE)
  | setix (o i v : VE)
  | aug (i : Nat) (op : Operator) (e : VE)
  | augix (o i : VE) (op : Operator) (e : VE)
  | ifS (t : VC) (a b : VSs)
  | forS (g : VG) (it : VI) (b : VSs)
  | whl (t : VC) (b : VSs)
  | rse (c n : Nat) (es : VEs)
  | tryA (i : Nat) (tab : List (Nat × Bool)) (b su : VSs)
  | tryO (tab : List (Nat × Bool)) (b su : VSs)
inductive VSs where
  | nil
  | cons (s : VS) (ss : VSs)
end

def VEs.len : VEs → Nat
  | .nil => 0
  | .cons _ es => es.len + 1
def VGs.len : VGs → Nat
  | .nil => 0
  | .cons _ gs => gs.len + 1
mutual
def VG.slots : VG → List Nat
  | .bad => []
  | .nm i => [i]
  | .tp gs => gs.slots
def VGs.slots : VGs → List Nat
  | .nil => []
  | .cons g gs => g.slots ++ gs.slots
end
/-! ### values -/
/-- the most items of a list -/
def lim : Nat := 1000000
def eqS : D → D → Bool
  | .non, .non => true
  | .bl a, .bl b => a == b
  | .int a, .int b => decide (a = b)
  | .str a, .str b => decide (a = b)
  | _, _ => false
/-! data that == goes through: no tokens, objects, dicts -/
mutual
def D.py : D → Option PyData
  | .non => some .none
  | .bl b => some (.bool b)
  | .int i => some (.int i)
  | .str s => some (.str s)
  | .tok => none
  | .tup ds => (D.pys ds).map .tuple
  | .lst ds => (D.pys ds).map .list
  | .dic _ => none
  | .obj _ _ => none
  | .exn _ _ => none
def D.pys : List D → Option (List PyData)
  | [] => some []
  | d :: ds => match D.py d, D.pys ds with
    | some x, some xs => some (x :: xs)
    | _, _ => none
end
def vEq (x y : D) (K : Bool → Prop) : Prop :=
  match x, y with
  | .non, .non => K true
  | .bl a, .bl b => K (a == b)
  | .int a, .int b => K (decide (a = b))
  | .str a, .str b => K (decide (a = b))
  | x, y => ∃ p q, x.py = some p ∧ y.py = some q ∧ SeqAt.shaped p = true ∧ SeqAt.shaped q = true ∧ K (PyData.eqv p q)
def D.flat : D → Bool
  | .non => true
  | .bl _ => true
  | .int _ => true
  | .str _ => true
  | _ => false
/-- y == x of two flat ones: True and 1 are equal -/
def eqF : D → D → Bool
  | .non, .non => true
  | .bl a, .bl b => a == b
  | .int a, .int b => a == b
  | .str a, .str b => a == b
  | .bl a, .int b => (if a then 1 else 0) == b
  | .int a, .bl b => a == (if b then 1 else 0)
  | _, _ => false
def inF (x : D) (ys : List D) : Bool := ys.any fun y => eqF y x
def vIn (x y : D) (K : Bool → Prop) : Prop :=
  match x, y with
  | .str a, .str b => K (!(Builtin.Str.occurrences b a 0 b.length 1).isEmpty)
  | x, .lst ys => x.flat = true ∧ ys.all D.flat = true ∧ K (inF x ys)
  | x, .tup ys => x.flat = true ∧ ys.all D.flat = true ∧ K (inF x ys)
  | _, _ => False
def vCmp (op : CmpOp) (x y : D) (K : Bool → Prop) : Prop :=
  match op with
  | .Eq => vEq x y K
  | .NotEq => vEq x y fun b => K (!b)
  | .Lt => (match x, y with
    | .int a, .int b => K (decide (a < b))
    | _, _ => False)
  | .LtE => (match x, y with
    | .int a, .int b => K (decide (a ≤ b))
    | _, _ => False)
  | .Gt => (match x, y with
    | .int a, .int b => K (decide (b < a))
    | _, _ => False)
  | .GtE => (match x, y with
    | .int a, .int b => K (decide (b ≤ a))
    | _, _ => False)
  | .Is => (match y with
    | .non => (match x with
      | .non => K true
      | _ => K false)
    | _ => False)
  | .IsNot => (match y with
    | .non => (match x with
      | .non => K false
      | _ => K true)
    | _ => False)
  | .In => vIn x y K
  | .NotIn => vIn x y fun b => K (!b)
def truth (x : D) (K : Bool → Prop) : Prop :=
  match x with
  | .non => K false
  | .bl b => K b
  | .int i => K (!decide (i = 0))
  | .str s => s.length ≤ lim ∧ K (!decide (s.length = 0))
  | .tup ds => K (!ds.isEmpty)
  | .lst ds => K (!ds.isEmpty)
  | .dic ks => K (!ks.isEmpty)
  | _ => False
/-- i * j may be asked: not too long together, or one of them short -/
def MulOk (i j : Int) : Prop := i.natAbs.log2 + j.natAbs.log2 < 1000000 ∨ Builtin.Int.intBits i ≤ 64 ∨ Builtin.Int.intBits j ≤ 64
def vBin (op : Operator) (x y : D) (K : R → Prop) : Prop :=
  match op, x, y with
  | .Add, .int i, .int j => K (.val (.int (i + j)))
  | .Sub, .int i, .int j => K (.val (.int (i - j)))
  | .Mult, .int i, .int j => MulOk i j ∧ K (.val (.int (i * j)))
  | .FloorDiv, .int i, .int j => (0 < j ∧ j.natAbs.log2 < 9000) ∧ K (.val (.int (i / j)))
  | .Mod, .int i, .int j => 0 < j ∧ K (.val (.int (i % j)))
  | .Pow, .int i, .int j => (0 ≤ j ∧ (Builtin.Int.intBits i : Int) * j ≤ 2 ^ 27) ∧ K (.val (.int (i ^ j.toNat)))
  | .LShift, .int i, .int j => (0 ≤ j ∧ (Builtin.Int.intBits i : Int) + j ≤ 2 ^ 27) ∧ K (.val (.int (i * 2 ^ j.toNat)))
  | .RShift, .int i, .int j => 0 ≤ j ∧ K (.val (.int (i / 2 ^ j.toNat)))
  | .BitAnd, .int i, .int j => K (.val (.int (Builtin.bitAnd i j)))
  | .BitOr, .int i, .int j => K (.val (.int (Builtin.bitOr i j)))
  | .Add, .str a, .str b => a.length + b.length ≤ lim ∧ K (.val (.str (a ++ b)))
  | .Add, .tup a, .tup b => a.length + b.length ≤ lim ∧ K (.val (.tup (a ++ b)))
  | .Add, .lst a, .lst b => a.length + b.length ≤ lim ∧ K (.tmp (.lst (a ++ b)))
  | .Mult, .tup a, .int k => (a ≠ [] ∧ 2 ≤ k ∧ k ≤ 1000 ∧ a.length ≤ 1000) ∧ K (.val (.tup (List.replicate k.toNat a).flatten))
  | .Mult, .lst a, .int k => (-(2 ^ 63) ≤ k ∧ k < 2 ^ 63 ∧ a.length * k.toNat ≤ lim) ∧ K (.tmp (.lst (List.replicate k.toNat a).flatten))
  | _, _, _ => False
def vNeg (x : D) (K : D → Prop) : Prop :=
  match x with
  | .int i => K (.int (-i))
  | _ => False
def vIx (x y : D) (K : D → Prop) : Prop :=
  match x, y with
  | .lst ds, .int i => ∃ d, L2.atI ds i = some d ∧ K d
  | .tup ds, .int i => ∃ d, L2.atI ds i = some d ∧ K d
  | .str s, .int i => s.length ≤ lim ∧ ∃ c, L2.atI s.cps.toList i = some c ∧ K (.str ⟨#[c]⟩)
  | _, _ => False
def cutD {α : Type} (xs : List α) (lo hi : Option Int) : List α := (xs.drop (HT.sIx xs.length 0 lo)).take (HT.sIx xs.length xs.length hi - HT.sIx xs.length 0 lo)
def vSl (x : D) (lo hi : Option Int) (K : R → Prop) : Prop :=
  match x with
  | .lst ds => K (.tmp (.lst (cutD ds lo hi)))
  | .tup ds => K (.val (.tup (cutD ds lo hi)))
  | _ => False
def intsD : List D → Option (List Int)
  | [] => some []
  | .int i :: ds => (intsD ds).map (i :: ·)
  | _ :: _ => none
def boolsD : List D → Option (List Bool)
  | [] => some []
  | .bl i :: ds => (boolsD ds).map (i :: ·)
  | _ :: _ => none
def vBlt (b : B) (xs : List D) (K : R → Prop) : Prop :=
  match b, xs with
  | .len, [.lst ds] => K (.val (.int (ds.length : Nat)))
  | .len, [.tup ds] => K (.val (.int (ds.length : Nat)))
  | .len, [.str s] => s.length ≤ lim ∧ K (.val (.int (s.length : Nat)))
  | .abs, [.int i] => K (.val (.int (if i < 0 then -i else i)))
  | .max, [.int i, .int j] => K (.val (.int (if j > i then j else i)))
  | .min, [.int i, .int j] => K (.val (.int (if j < i then j else i)))
  | .int, [.int i] => K (.val (.int i))
  | .int, [.bl c] => K (.val (.int (if c then 1 else 0)))
  | .list, [.lst ds] => K (.tmp (.lst ds))
  | .list, [.tup ds] => K (.tmp (.lst ds))
  | .tuple, [.lst ds] => K (.val (.tup ds))
  | .tuple, [.tup ds] => K (.val (.tup ds))
  | .sum, [.lst ds] => ∃ ns, intsD ds = some ns ∧ K (.val (.int ns.sum))
  | .any, [.lst ds] => ∃ bs, boolsD ds = some bs ∧ K (.val (.bl (bs.any id)))
  | .all, [.lst ds] => ∃ bs, boolsD ds = some bs ∧ K (.val (.bl (bs.all id)))
  | .sorted, [.lst ds] => ∃ ns, intsD ds = some ns ∧ ds.length ≤ lim ∧ ∀ ms : List Int, ms.Perm ns → ms.Pairwise (· ≤ ·) → K (.tmp (.lst (ms.map .int)))
  | .range, [.int n] => (0 ≤ n ∧ n ≤ lim) ∧ K (.tmp (.lst ((List.range n.toNat).map fun i => .int (i : Nat))))
  | _, _ => False
def vIsin (x : D) (t : Ty) (K : Bool → Prop) : Prop :=
  match t with
  | .bi n => (match x with
    | .non => K (n == "NoneType")
    | .bl _ => K (n == "bool" || n == "int")
    | .int _ => K (n == "int")
    | .str _ => K (n == "str")
    | .lst _ => K (n == "list")
    | .tup _ => K (n == "tuple")
    | .dic _ => K (n == "dict")
    | _ => False)
  | .own tab => (match x with
    | .exn e _ => ∃ b, tab.lookup e = some b ∧ K b
    | _ => False)

/-- a field: which, by the class -/
def vFld (x : D) (tab : List (Nat × Nat)) (K : D → Prop) : Prop :=
  match x with
  | .exn c fs => ∃ i d, tab.lookup c = some i ∧ fs[i]? = some d ∧ K d
  | _ => False

/-! ### slots -/
def look (ρ : En) (i : Nat) (K : R → Prop) : Prop :=
  match ρ[i]? with
  | some (.val d) => K (.val d)
  | some (.own d) => K (.var i d)
  | _ => False
/-- what was taken from a slot still stands there -/
def R.lv (r : R) (ρ : En) (P : Prop) : Prop :=
  match r with
  | .var i d => (ρ[i]? = some (.own d) ∨ ρ[i]? = some (.val d)) ∧ P
  | _ => P
def lvs : List R → En → Prop → Prop
  | [], _, P => P
  | r :: rs, ρ, P => r.lv ρ (lvs rs ρ P)
/-- the slot's own thing is changed no more -/
def R.fz (r : R) (ρ : En) : En :=
  match r with
  | .var i d => ρ.set i (.val d)
  | _ => ρ
def fzs : List R → En → En
  | [], ρ => ρ
  | r :: rs, ρ => fzs rs (r.fz ρ)
def wipeV : List Nat → En → En
  | [], ρ => ρ
  | i :: is, ρ => (wipeV is ρ).set i .un
/-- the slots at is as in ρ0, the others as in ρ -/
def backV (ρ0 : En) : List Nat → En → En
  | [], ρ => ρ
  | i :: is, ρ => (match ρ0[i]? with
    | some s => (backV ρ0 is ρ).set i s
    | none => backV ρ0 is ρ)
def noOwn : List Nat → En → Prop → Prop
  | [], _, P => P
  | i :: is, ρ, P => match ρ[i]? with
    | some (.own _) => False
    | _ => noOwn is ρ P
/-- the store of a result in a slot -/
def put (i : Nat) (r : R) (ρ : En) : En :=
  match r with
  | .val d => ρ.set i (.val d)
  | .tmp d => ρ.set i (.own d)
  | .var j d => (ρ.set j (.val d)).set i (.val d)
abbrev EK := R → En → Prop
abbrev XK := Exc → En → Prop
/-- the type that a method is asked of -/
def recv (m : M) (d : D) (P : Prop) : Prop :=
  match m, d with
  | .append, .lst _ => P
  | .pop, .lst _ => P
  | .extend, .lst _ => P
  | .insert, .lst _ => P
  | .index, .lst _ => P
  | _, _ => False
/-- methods of built-in types -/
def vMet (m : M) (x : R) (rs : List R) (ρ : En) (K : EK) : Prop :=
  match m, x, rs with
  | .append, .var i (.lst ds), [r] => ((r.fz ρ)[i]? = some (.own (.lst ds)) ∧ ds.length < lim) ∧ K (.val .non) ((r.fz ρ).set i (.own (.lst (ds ++ [r.d]))))
  | .pop, .var i (.lst ds), [] => ρ[i]? = some (.own (.lst ds)) ∧ ∃ d, ds[ds.length - 1]? = some d ∧ K (.val d) (ρ.set i (.own (.lst ds.dropLast)))
  | .pop, .var i (.lst ds), [r] => (match r.d with
    | .int k => (ρ[i]? = some (.own (.lst ds)) ∧ 0 ≤ k ∧ k < 2 ^ 62) ∧ ∃ d, ds[k.toNat]? = some d ∧ K (.val d) (ρ.set i (.own (.lst (ds.eraseIdx k.toNat))))
    | _ => False)
  | .extend, .var i (.lst ds), [r] => (match r.d with
    | .lst es => ((r.fz ρ)[i]? = some (.own (.lst ds)) ∧ ds.length + es.length ≤ lim) ∧ K (.val .non) ((r.fz ρ).set i (.own (.lst (ds ++ es))))
    | _ => False)
  | .insert, .var i (.lst ds), [p, r] => (match p.d with
    | .int k => ((r.fz ρ)[i]? = some (.own (.lst ds)) ∧ (0 ≤ k ∧ k ≤ ds.length) ∧ ds.length < lim) ∧ K (.val .non) ((r.fz ρ).set i (.own (.lst (ds.take k.toNat ++ r.d :: ds.drop k.toNat))))
    | _ => False)
  | .index, x, [r] => (match x.d with
    | .lst ds => r.d.flat = true ∧ ds.all D.flat = true ∧ ∃ (j : Nat) (z : D), ds[j]? = some z ∧ eqF z r.d = true ∧ (∀ (i : Nat) (y : D), i < j → ds[i]? = some y → eqF y r.d = false) ∧ K (.val (.int (j : Nat))) ρ
    | _ => False)
  | _, _, _ => False
/-- a comprehension's turns -/
def compL (own : List Nat) (step : D → En → EK → (En → Prop) → Prop) : List D → List D → En → (List D → En → Prop) → Prop
  | [], acc, ρ, K => K acc ρ
  | d :: ds, acc, ρ, K => step d ρ (fun r ρ1 => r.lv ρ1 (acc.length < lim ∧ compL own step ds (acc ++ [r.d]) (wipeV own (r.fz ρ1)) K)) fun ρ1 => compL own step ds acc (wipeV own ρ1) K
/-- a loop's turns -/
def forL (step : D → En → (En → Prop) → (En → Prop) → Prop) (K : En → Prop) : List D → En → Prop
  | [], ρ => K ρ
  | d :: ds, ρ => step d ρ (forL step K ds) K
/-- enumerate -/
def enumD : Nat → List D → List D
  | _, [] => []
  | k, d :: ds => .tup [.int (k : Nat), d] :: enumD (k + 1) ds
def zipD : List D → List D → List D
  | x :: xs, y :: ys => .tup [x, y] :: zipD xs ys
  | _, _ => []
def rngD (lo hi : Int) : List D := (List.range (hi - lo).toNat).map fun k => .int (lo + (k : Nat))
def vIter (x : R) (ρ : En) (K : List D → En → Prop) : Prop :=
  match x.d with
  | .lst ds => K ds (x.fz ρ)
  | .tup ds => K ds (x.fz ρ)
  | .str s => K (s.cps.toList.map fun c => .str ⟨#[c]⟩) ρ
  | _ => False
def vEnum (x : R) (ρ : En) (K : List D → En → Prop) : Prop :=
  match x.d with
  | .lst ds => K (enumD 0 ds) (x.fz ρ)
  | _ => False
def vZip (x y : R) (ρ : En) (K : List D → En → Prop) : Prop :=
  match x.d, y.d with
  | .lst ds, .lst es => K (zipD ds es) (y.fz (x.fz ρ))
  | _, _ => False
def vRng (xs : List D) (K : List D → Prop) : Prop :=
  match xs with
  | [.int n] => (-(2 ^ 62) ≤ n ∧ n < 2 ^ 62) ∧ K (rngD 0 n)
  | [.int m, .int n] => (-(2 ^ 62) ≤ m ∧ m < 2 ^ 62 ∧ -(2 ^ 62) ≤ n ∧ n < 2 ^ 62) ∧ K (rngD m n)
  | _ => False

/-! ### the reading -/
section
variable (Γ : Nat → VSp)
mutual
def wG : VG → R → En → (En → Prop) → Prop
  | .bad, _, _, _ => False
  | .nm i, r, ρ, K => K (put i r ρ)
  | .tp gs, r, ρ, K => match r with
    | .val (.tup ds) => wGs gs ds ρ K
    | _ => False
def wGs : VGs → List D → En → (En → Prop) → Prop
  | .nil, [], ρ, K => K ρ
  | .cons g gs, d :: ds, ρ, K => wG g (.val d) ρ fun ρ1 => wGs gs ds ρ1 K
  | _, _, _, _ => False
end
mutual
def wE : VE → En → EK → XK → Prop
  | .bad, _, _, _ => False
  | .var i, ρ, K, _ => look ρ i fun r => K r ρ
  | .cst d, ρ, K, _ => K (.val d) ρ
  | .bin op a b, ρ, K, E => wE a ρ (fun x ρ1 => wE b ρ1 (fun y ρ2 => x.lv ρ2 (vBin op x.d y.d fun r => K r ρ2)) E) E
  | .neg a, ρ, K, E => wE a ρ (fun x ρ1 => vNeg x.d fun d => K (.val d) ρ1) E
  | .notE a, ρ, K, E => wE a ρ (fun x ρ1 => truth x.d fun b => K (.val (.bl (!b))) ρ1) E
  | .cmp op a b, ρ, K, E => wE a ρ (fun x ρ1 => wE b ρ1 (fun y ρ2 => x.lv ρ2 (vCmp op x.d y.d fun c => K (.val (.bl c)) ρ2)) E) E
  | .chn op op' a b c, ρ, K, E => wE a ρ (fun x ρ1 => wE b ρ1 (fun y ρ2 => x.lv ρ2 (vCmp op x.d y.d fun k => (k = true → wE c ρ2 (fun z ρ3 => y.lv ρ3 (vCmp op' y.d z.d fun k' => K (.val (.bl k')) ρ3)) E) ∧ (k = false → K (.val (.bl false)) ρ2))) E) E
  | .andE a b, ρ, K, E => wE a ρ (fun x ρ1 => ∃ c, x.d = .bl c ∧ (c = true → wE b ρ1 K E) ∧ (c = false → K (.val (.bl false)) ρ1)) E
  | .orE a b, ρ, K, E => wE a ρ (fun x ρ1 => ∃ c, x.d = .bl c ∧ (c = true → K (.val (.bl true)) ρ1) ∧ (c = false → wE b ρ1 K E)) E
  | .ife t a b, ρ, K, E => wC t ρ (fun c ρ1 => (c = true → wE a ρ1 K E) ∧ (c = false → wE b ρ1 K E)) E
  | .tup es, ρ, K, E => wEs es ρ (fun rs ρ1 => lvs rs ρ1 (K (.val (.tup (rs.map R.d))) (fzs rs ρ1))) E
  | .lst es, ρ, K, E => wEs es ρ (fun rs ρ1 => lvs rs ρ1 (K (.tmp (.lst (rs.map R.d))) (fzs rs ρ1))) E
  | .ix a i, ρ, K, E => wE a ρ (fun x ρ1 => wE i ρ1 (fun y ρ2 => x.lv ρ2 (vIx x.d y.d fun d => K (.val d) ρ2)) E) E
  | .sl a lo hi, ρ, K, E => wE a ρ (fun x ρ1 => wO lo ρ1 (fun l ρ2 => wO hi ρ2 (fun h ρ3 => x.lv ρ3 (vSl x.d l h fun r => K r ρ3)) E) E) E
  | .fld a tab, ρ, K, E => wE a ρ (fun x ρ1 => vFld x.d tab fun d => K (.val d) ρ1) E
  | .call n es, ρ, K, E => wEs es ρ (fun rs ρ1 => lvs rs ρ1 ((Γ n).run (rs.map R.d) (fun o d => K (if o then .tmp d else .val d) (if d.scal then ρ1 else fzs rs ρ1)) fun x => E x (fzs rs ρ1))) E
  | .blt b es, ρ, K, E => wEs es ρ (fun rs ρ1 => lvs rs ρ1 (vBlt b (rs.map R.d) fun r => K r ρ1)) E
  | .isin a t, ρ, K, E => wE a ρ (fun x ρ1 => vIsin x.d t fun b => K (.val (.bl b)) ρ1) E
  | .met m a es, ρ, K, E => wE a ρ (fun x ρ1 => recv m x.d (wEs es ρ1 (fun rs ρ2 => x.lv ρ2 (lvs rs ρ2 (vMet m x rs ρ2 K))) E)) E
  | .comp own elt g it ifs, ρ, K, E => wI it ρ (fun ds ρ1 => noOwn own ρ1 (compL own (fun d ρ2 Ka Ks => wG g (.val d) ρ2 fun ρ3 => wC ifs ρ3 (fun c ρ4 => (c = true → wE elt ρ4 Ka fun _ _ => False) ∧ (c = false → Ks ρ4)) fun _ _ => False) ds [] (wipeV own ρ1) fun acc ρ5 => K (.tmp (.lst acc)) (backV ρ1 own ρ5))) E
  | .lrg a b, ρ, K, E => wO a ρ (fun l ρ1 => wE b ρ1 (fun y ρ2 => ∃ n, y.d = .int n ∧ (0 ≤ l.getD 0 ∧ l.getD 0 ≤ lim ∧ 0 ≤ n ∧ n ≤ lim) ∧ K (.tmp (.lst (rngD (l.getD 0) n))) ρ2) E) E
def wC : VC → En → (Bool → En → Prop) → XK → Prop
  | .tv e, ρ, K, E => wE e ρ (fun x ρ1 => truth x.d fun b => K b ρ1) E
  | .tnot t, ρ, K, E => wC t ρ (fun b ρ1 => K (!b) ρ1) E
  | .tand t u, ρ, K, E => wC t ρ (fun b ρ1 => (b = true → wC u ρ1 K E) ∧ (b = false → K false ρ1)) E
  | .tor t u, ρ, K, E => wC t ρ (fun b ρ1 => (b = true → K true ρ1) ∧ (b = false → wC u ρ1 K E)) E
  | .tyes, ρ, K, _ => K true ρ
def wEs : VEs → En → (List R → En → Prop) → XK → Prop
  | .nil, ρ, K, _ => K [] ρ
  | .cons e es, ρ, K, E => wE e ρ (fun r ρ1 => wEs es ρ1 (fun rs ρ2 => K (r :: rs) ρ2) E) E
def wO : VO → En → (Option Int → En → Prop) → XK → Prop
  | .none, ρ, K, _ => K none ρ
  | .some e, ρ, K, E => wE e ρ (fun r ρ1 => ∃ i, r.d = .int i ∧ K (some i) ρ1) E
def wI : VI → En → (List D → En → Prop) → XK → Prop
  | .it e, ρ, K, E => wE e ρ (fun x ρ1 => vIter x ρ1 K) E
  | .rng es, ρ, K, E => wEs es ρ (fun rs ρ1 => vRng (rs.map R.d) fun ds => K ds ρ1) E
  | .enum e, ρ, K, E => wE e ρ (fun x ρ1 => vEnum x ρ1 K) E
  | .zip a b, ρ, K, E => wE a ρ (fun x ρ1 => wE b ρ1 (fun y ρ2 => x.lv ρ2 (vZip x y ρ2 K)) E) E
end
mutual
/-- no handled exception in it -/
def D.noX : D → Bool
  | .tup ds => D.noXs ds
  | .lst ds => D.noXs ds
  | .exn _ _ => false
  | .obj _ fs => D.noXs fs
  | .dic _ => false
  | _ => true
def D.noXs : List D → Bool
  | [] => true
  | d :: ds => d.noX && D.noXs ds
end
def Slot.noX : Slot → Bool
  | .un => true
  | .val d => d.noX
  | .own d => d.noX
def noX (ρ : En) : Prop := ∀ s ∈ ρ, s.noX = true
structure VEnds where
  nx : En → Prop
  rt : Bool → D → Prop
  bk : En → Prop := fun _ => False
  ct : En → Prop := fun _ => False
def retR (r : R) (K : Bool → D → Prop) : Prop :=
  match r with
  | .val d => K false d
  | .tmp d => K true d
  | .var _ d => K true d
def vAug (i : Nat) (op : Operator) (x : R) (y : R) (ρ : En) (K : En → Prop) : Prop :=
  match op, x.d, y.d with
  | .Add, .int a, .int b => K (ρ.set i (.val (.int (a + b))))
  | .Sub, .int a, .int b => K (ρ.set i (.val (.int (a - b))))
  | _, _, _ => False
mutual
def wS : VS → En → VEnds → XK → Prop
  | .bad, _, _, _ => False
  | .pass, ρ, D, _ => D.nx ρ
  | .brk, ρ, D, _ => D.bk ρ
  | .cnt, ρ, D, _ => D.ct ρ
  | .ret e, ρ, D, E => wE Γ e ρ (fun r _ => retR r D.rt) E
  | .retN, _, D, _ => D.rt false .non
  | .ex e, ρ, D, E => wE Γ e ρ (fun _ ρ1 => D.nx ρ1) E
  | .asg g e, ρ, D, E => wE Γ e ρ (fun r ρ1 => wG g r ρ1 D.nx) E
  | .par i j a b, ρ, D, E => wE Γ a ρ (fun x ρ1 => wE Γ b ρ1 (fun y ρ2 => x.lv ρ2 (D.nx (put j y (put i x ρ2)))) E) E
  | .setix _ _ _, _, _, _ => False
  | .aug i op e, ρ, D, E => look ρ i fun x => wE Γ e ρ (fun y ρ1 => x.lv ρ1 (vAug i op x y ρ1 D.nx)) E
  | .augix _ _ _ _, _, _, _ => False
  | .ifS t a b, ρ, D, E => wC Γ t ρ (fun c ρ1 => (c = true → wSs a ρ1 D E) ∧ (c = false → wSs b ρ1 D E)) E
  | .forS g it b, ρ, D, E => wI Γ it ρ (fun ds ρ1 => forL (fun d ρ2 nx bk => wG g (.val d) ρ2 fun ρ3 => wSs b ρ3 { nx := nx, rt := D.rt, bk := bk, ct := nx } E) D.nx ds ρ1) E
  | .whl t b, ρ, D, E => ∃ W : Nat → En → Prop, (∃ m, W m ρ) ∧ ∀ m ρ1, W m ρ1 → wC Γ t ρ1 (fun c ρ2 => (c = true → wSs b ρ2 { nx := fun ρ3 => ∃ m', m' < m ∧ W m' ρ3, rt := D.rt, bk := D.nx, ct := fun ρ3 => ∃ m', m' < m ∧ W m' ρ3 } E) ∧ (c = false → D.nx ρ2)) E
  | .rse c n es, ρ, _, E => wEs Γ es ρ (fun rs ρ1 => lvs rs ρ1 (E ⟨c, rs.map R.d⟩ (fzs rs ρ1) ∧ rs.length = n)) E
  | .tryA i tab b su, ρ, D, E => wSs b ρ D fun x ρ1 => ∃ y, tab.lookup x.cls = some y ∧
      (y = true → wSs su (ρ1.set i (.val (.exn x.cls x.fs))) { nx := fun ρ2 => noX (ρ2.set i .un) ∧ D.nx (ρ2.set i .un), rt := fun o d => d.noX = true ∧ D.rt o d, bk := fun ρ2 => noX (ρ2.set i .un) ∧ D.bk (ρ2.set i .un), ct := fun ρ2 => noX (ρ2.set i .un) ∧ D.ct (ρ2.set i .un) } fun _ _ => False) ∧ (y = false → E x ρ1)
  | .tryO tab b su, ρ, D, E => wSs b ρ D fun x ρ1 => ∃ y, tab.lookup x.cls = some y ∧
      (y = true → wSs su ρ1 D fun _ _ => False) ∧ (y = false → E x ρ1)
def wSs : VSs → En → VEnds → XK → Prop
  | .nil, ρ, D, _ => D.nx ρ
  | .cons s ss, ρ, D, E => wS s ρ { D with nx := fun ρ1 => wSs ss ρ1 D E } E
end
end
mutual
theorem wG_ex : ∀ (g : VG) (r : R) (ρ : En) (K : En → Prop), wG g r ρ K → ∃ ρ', K ρ'
  | .bad, _, _, _, h => by unfold wG at h; exact h.elim
  | .nm i, r, ρ, K, h => by unfold wG at h; exact ⟨_, h⟩
  | .tp gs, r, ρ, K, h => by
    unfold wG at h
    split at h
    · exact (wGs_ex gs _ ρ K h).1
    · exact h.elim
theorem wGs_ex : ∀ (gs : VGs) (ds : List D) (ρ : En) (K : En → Prop), wGs gs ds ρ K → (∃ ρ', K ρ') ∧ ds.length = gs.len
  | .nil, [], ρ, K, h => by unfold wGs at h; exact ⟨⟨_, h⟩, rfl⟩
  | .cons g gs, d :: ds, ρ, K, h => by
    unfold wGs at h
    obtain ⟨ρ1, h1⟩ := wG_ex g _ ρ _ h
    obtain ⟨h2, h3⟩ := wGs_ex gs ds ρ1 K h1
    exact ⟨h2, by rw [List.length_cons, h3]; rfl⟩
  | .nil, _ :: _, _, _, h => by unfold wGs at h; exact h.elim
  | .cons _ _, [], _, _, h => by unfold wGs at h; exact h.elim
end
end VL
set_option maxHeartbeats 4000000
/-! VLb: what a datum is in the abstract heap; states; how they go on. -/
namespace VL
open PySem L2

/-- what stays through a whole law: the written part, the own classes by number (their addresses, their attributes in order) -/
structure CT where
  K : PySem.W.Frag
  cls : Nat → Addr
  fld : Nat → List Str
/-- the store of draws: its dict, its list of cells, these -/
structure SG where
  p : Addr
  c : Addr
  ns : List Int
  x : Option (Addr × Nat × Addr)
/-- the fields of an exception's dict -/
def FldsOf (C : CT) (c : Nat) (fl : List (Str × V)) (vs : List V) : Prop := vs.length = (C.fld c).length ∧ ∀ (i : Nat) f, (C.fld c)[i]? = some f → fl.lookup f = vs[i]?

def Sub (F H : Hp) : Prop := ∀ a o, F a = some o → H a = some o
theorem Sub.refl (F : Hp) : Sub F F := fun _ _ h => h
theorem Sub.trans {F G H : Hp} (a : Sub F G) (b : Sub G H) : Sub F H := fun x o h => b x o (a x o h)
theorem Sub.upd {F : Hp} {a : Addr} {o : HO} (h : F a = none) : Sub F (upd F a o) := fun b u e => by
  rw [upd_ne (ne_of_none e h)]
  exact e
theorem Sub.none {F H : Hp} (s : Sub F H) {a : Addr} (h : H a = .none) : F a = .none := by
  cases q : F a with
  | none => rfl
  | some o => rw [s a o q] at h; cases h
theorem Sub.sqT {K : PySem.W.Frag} {F H : Hp} (s : Sub F H) {a : Addr} {xs : List V} (h : SqT K F a xs) : SqT K H a xs := by
  rcases h with (h | ⟨o, h⟩) | h
  · exact .inl (.inl (s _ _ h))
  · exact .inl (.inr ⟨o, s _ _ h⟩)
  · exact .inr h
theorem Sub.sqL {K : PySem.W.Frag} {F H : Hp} (s : Sub F H) {a : Addr} {xs : List V} (h : SqL K F a xs) : SqL K H a xs := by
  rcases h with (h | ⟨o, h⟩) | h
  · exact .inl (.inl (s _ _ h))
  · exact .inl (.inr ⟨o, s _ _ h⟩)
  · exact .inr h

mutual
/-- the datum d stands at the value v, all of it in the part F of the heap that nobody changes -/
def Rep (C : CT) (S : SG) (F : Hp) : D → V → Prop
  | .non, v => v = .non
  | .bl b, v => v = .bl b
  | .int i, v => v = .int i
  | .str s, v => v = .str s
  | .tok, v => v = .ref S.p
  | .tup ds, v => ∃ a vs, v = .ref a ∧ SqT C.K F a vs ∧ Reps C S F ds vs
  | .lst ds, v => ∃ a vs, v = .ref a ∧ F a = some (.lst vs) ∧ Reps C S F ds vs
  | .dic _, _ => False
  | .obj c fs, v => ∃ a dx vs, v = .ref a ∧ F a = some (.ins (C.cls c) dx ((C.fld c).zip vs)) ∧ vs.length = (C.fld c).length ∧ Reps C S F fs vs
  | .exn c fs, v => ∃ a dx fl vs, S.x = some (a, c, dx) ∧ v = .ref a ∧ F dx = some (.xd fl) ∧ FldsOf C c fl vs ∧ Reps C S F fs vs
def Reps (C : CT) (S : SG) (F : Hp) : List D → List V → Prop
  | [], vs => vs = []
  | d :: ds, vs => ∃ v r, vs = v :: r ∧ Rep C S F d v ∧ Reps C S F ds r
end
section
variable {C : CT} {S : SG} {F F' H : Hp}
mutual
theorem Rep.mono (s : Sub F F') : ∀ (d : D) (v : V), Rep C S F d v → Rep C S F' d v
  | .non, _, h => by unfold Rep at h ⊢; exact h
  | .bl _, _, h => by unfold Rep at h ⊢; exact h
  | .int _, _, h => by unfold Rep at h ⊢; exact h
  | .str _, _, h => by unfold Rep at h ⊢; exact h
  | .tok, _, h => by unfold Rep at h ⊢; exact h
  | .tup ds, _, h => by
    unfold Rep at h ⊢
    obtain ⟨a, vs, e, q, r⟩ := h
    exact ⟨a, vs, e, s.sqT q, Reps.mono s ds vs r⟩
  | .lst ds, _, h => by
    unfold Rep at h ⊢
    obtain ⟨a, vs, e, q, r⟩ := h
    exact ⟨a, vs, e, s _ _ q, Reps.mono s ds vs r⟩
  | .dic _, _, h => by unfold Rep at h; exact h.elim
  | .obj c fs, _, h => by
    unfold Rep at h ⊢
    obtain ⟨a, dx, vs, e, q, l, r⟩ := h
    exact ⟨a, dx, vs, e, s _ _ q, l, Reps.mono s fs vs r⟩
  | .exn c fs, _, h => by
    unfold Rep at h ⊢
    obtain ⟨a, dx, fl, vs, e1, e, q, l, r⟩ := h
    exact ⟨a, dx, fl, vs, e1, e, s _ _ q, l, Reps.mono s fs vs r⟩
theorem Reps.mono (s : Sub F F') : ∀ (ds : List D) (vs : List V), Reps C S F ds vs → Reps C S F' ds vs
  | [], _, h => by unfold Reps at h ⊢; exact h
  | d :: ds, _, h => by
    unfold Reps at h ⊢
    obtain ⟨v, r, e, h1, h2⟩ := h
    exact ⟨v, r, e, Rep.mono s d v h1, Reps.mono s ds r h2⟩
end
theorem Rep.scal {d : D} {v : V} (hs : d.scal = true) (h : Rep C S F d v) : Rep C S F' d v := by
  cases d <;> first | (unfold Rep at h ⊢; exact h) | (cases hs)
theorem Reps.nil : Reps C S F [] [] := by unfold Reps; rfl
theorem Reps.cons {d : D} {ds : List D} {v : V} {vs : List V} (h1 : Rep C S F d v) (h2 : Reps C S F ds vs) : Reps C S F (d :: ds) (v :: vs) := by
  unfold Reps
  exact ⟨v, vs, rfl, h1, h2⟩
theorem Reps.len : ∀ {ds : List D} {vs : List V}, Reps C S F ds vs → vs.length = ds.length
  | [], _, h => by unfold Reps at h; subst h; rfl
  | d :: ds, _, h => by
    unfold Reps at h
    obtain ⟨v, r, rfl, _, h2⟩ := h
    rw [List.length_cons, List.length_cons, Reps.len h2]
theorem Reps.at : ∀ {ds : List D} {vs : List V} {i : Nat} {d : D}, Reps C S F ds vs → ds[i]? = some d → ∃ v, vs[i]? = some v ∧ Rep C S F d v
  | [], _, _, _, _, e => by simp at e
  | d :: ds, _, 0, d', h, e => by
    unfold Reps at h
    obtain ⟨v, r, rfl, h1, _⟩ := h
    have e2 : d = d' := by simpa using e
    subst e2
    exact ⟨v, by simp, h1⟩
  | d :: ds, _, i + 1, d', h, e => by
    unfold Reps at h
    obtain ⟨v, r, rfl, _, h2⟩ := h
    obtain ⟨w, e1, e2⟩ := Reps.at (i := i) h2 (by simpa using e)
    exact ⟨w, by simpa using e1, e2⟩
theorem Reps.at' : ∀ {ds : List D} {vs : List V} {i : Nat} {v : V}, Reps C S F ds vs → vs[i]? = some v → ∃ d, ds[i]? = some d ∧ Rep C S F d v
  | [], _, _, _, h, e => by unfold Reps at h; subst h; simp at e
  | d :: ds, _, 0, v', h, e => by
    unfold Reps at h
    obtain ⟨v, r, rfl, h1, _⟩ := h
    have e2 : v = v' := by simpa using e
    subst e2
    exact ⟨d, by simp, h1⟩
  | d :: ds, _, i + 1, v', h, e => by
    unfold Reps at h
    obtain ⟨v, r, rfl, _, h2⟩ := h
    obtain ⟨w, e1, e2⟩ := Reps.at' (i := i) h2 (by simpa using e)
    exact ⟨w, by simpa using e1, e2⟩
theorem Reps.app : ∀ {ds es : List D} {vs us : List V}, Reps C S F ds vs → Reps C S F es us → Reps C S F (ds ++ es) (vs ++ us)
  | [], _, _, _, h, k => by unfold Reps at h; subst h; exact k
  | d :: ds, es, _, us, h, k => by
    unfold Reps at h
    obtain ⟨v, r, rfl, h1, h2⟩ := h
    exact .cons h1 (Reps.app h2 k)
theorem Reps.take : ∀ {ds : List D} {vs : List V} (n : Nat), Reps C S F ds vs → Reps C S F (ds.take n) (vs.take n)
  | [], _, n, h => by unfold Reps at h; subst h; simp; exact .nil
  | d :: ds, _, 0, h => by simp; exact .nil
  | d :: ds, _, n + 1, h => by
    unfold Reps at h
    obtain ⟨v, r, rfl, h1, h2⟩ := h
    exact .cons h1 (Reps.take n h2)
theorem Reps.drop : ∀ {ds : List D} {vs : List V} (n : Nat), Reps C S F ds vs → Reps C S F (ds.drop n) (vs.drop n)
  | [], _, n, h => by unfold Reps at h; subst h; simp; exact .nil
  | d :: ds, _, 0, h => h
  | d :: ds, _, n + 1, h => by
    unfold Reps at h
    obtain ⟨v, r, rfl, h1, h2⟩ := h
    exact Reps.drop n h2
theorem Reps.erase : ∀ {ds : List D} {vs : List V} (n : Nat), Reps C S F ds vs → Reps C S F (ds.eraseIdx n) (vs.eraseIdx n)
  | [], _, n, h => by unfold Reps at h; subst h; simp; exact .nil
  | d :: ds, _, 0, h => by
    unfold Reps at h
    obtain ⟨v, r, rfl, h1, h2⟩ := h
    exact h2
  | d :: ds, _, n + 1, h => by
    unfold Reps at h
    obtain ⟨v, r, rfl, h1, h2⟩ := h
    exact .cons h1 (Reps.erase n h2)
theorem Reps.rep {ds : List D} {vs : List V} (h : Reps C S F ds vs) : ∀ k : Nat, Reps C S F (List.replicate k ds).flatten (List.replicate k vs).flatten
  | 0 => .nil
  | k + 1 => by
    rw [List.replicate_succ, List.replicate_succ, List.flatten_cons, List.flatten_cons]
    exact h.app (Reps.rep h k)
theorem Reps.dropLast {ds : List D} {vs : List V} (h : Reps C S F ds vs) : Reps C S F ds.dropLast vs.dropLast := by
  rw [List.dropLast_eq_take, List.dropLast_eq_take, h.len]
  exact h.take _
theorem Reps.intsD : ∀ {ds : List D} {vs : List V} {ns : List Int}, VL.intsD ds = some ns → Reps C S F ds vs → vs = ns.map V.int
  | [], _, ns, e, h => by
    unfold Reps at h
    unfold VL.intsD at e
    cases e
    exact h
  | d :: ds, _, ns, e, h => by
    unfold Reps at h
    obtain ⟨v, r, rfl, h1, h2⟩ := h
    cases d with
    | int i =>
      unfold VL.intsD at e
      cases q : VL.intsD ds with
      | none => rw [q] at e; cases e
      | some ms =>
        rw [q] at e
        have e2 : i :: ms = ns := by simpa using e
        subst e2
        unfold Rep at h1
        subst h1
        rw [Reps.intsD q h2] <;> rfl
    | _ => unfold VL.intsD at e; cases e
theorem Reps.boolsD : ∀ {ds : List D} {vs : List V} {ns : List Bool}, VL.boolsD ds = some ns → Reps C S F ds vs → vs = ns.map V.bl
  | [], _, ns, e, h => by
    unfold Reps at h
    unfold VL.boolsD at e
    cases e
    exact h
  | d :: ds, _, ns, e, h => by
    unfold Reps at h
    obtain ⟨v, r, rfl, h1, h2⟩ := h
    cases d with
    | bl i =>
      unfold VL.boolsD at e
      cases q : VL.boolsD ds with
      | none => rw [q] at e; cases e
      | some ms =>
        rw [q] at e
        have e2 : i :: ms = ns := by simpa using e
        subst e2
        unfold Rep at h1
        subst h1
        rw [Reps.boolsD q h2] <;> rfl
    | _ => unfold VL.boolsD at e; cases e
theorem Reps.ofInts : ∀ (ns : List Int), Reps C S F (ns.map .int) (ns.map V.int)
  | [] => .nil
  | n :: ns => .cons (by unfold Rep; rfl) (Reps.ofInts ns)
theorem Reps.mapL {α : Type} {f : α → D} {g : α → V} (h : ∀ x, Rep C S F (f x) (g x)) : ∀ (xs : List α), Reps C S F (xs.map f) (xs.map g)
  | [] => .nil
  | x :: xs => .cons (h x) (Reps.mapL h xs)
end

/-! ### the store of draws -/
/-- the pairs of the store's dict -/
def stoL (c : Addr) (a r l t s : Int) : List (Key × V) := [(.inr "cells", .ref c), (.inr "at", .int a), (.inr "rest", .int r), (.inr "left", .int l), (.inr "turn", .int t), (.inr "seed", .int s)]
structure StoB (ns : List Int) (a r l t s : Int) : Prop where
  a0 : 0 ≤ a
  a1 : a ≤ ns.length
  r0 : 0 ≤ r
  r1 : r < 10 ^ 840
  l0 : 0 ≤ l
  l1 : l ≤ 3
  la : 0 < l → 0 < a
  t0 : 0 ≤ t
  s0 : 0 ≤ s
  s1 : s < 2147483647
structure Sto (S : SG) (F H : Hp) : Prop where
  cells : F S.c = some (.lst (S.ns.map V.int))
  free : F S.p = none
  len : S.ns.length ≤ 63
  st : ∃ a r l t s : Int, H S.p = some (.dK (stoL S.c a r l t s)) ∧ StoB S.ns a r l t s
theorem Sto.has {S : SG} {F H : Hp} (s : Sto S F H) : H S.p ≠ none := by
  obtain ⟨a, r, l, t, z, e, _⟩ := s.st
  rw [e]
  exact fun q => by cases q

/-! ### states -/
/-- the own thing at a: a list (or a dict) that nobody else holds -/
def Own (C : CT) (S : SG) (H0 F H : Hp) (d : D) (a : Addr) : Prop := H0 a = none ∧ F a = none ∧ a ≠ S.p ∧
  match d with
  | .lst ds => ∃ vs, H a = some (.lst vs) ∧ Reps C S F ds vs
  | _ => False
structure OK (C : CT) (S : SG) (F0 H0 F H : Hp) (σ : L2.St) (ρ : En) : Prop where
  sub : Sub F H
  fr : ∀ a o, a ≠ S.p → H0 a = some o → H a = some o
  p0 : H0 S.p ≠ none
  f0 : Sub F0 F
  fn : ∀ a o, F a = some o → F0 a = some o ∨ H0 a = none
  len : ρ.length = σ.length
  val : ∀ (i : Nat) d, ρ[i]? = some (.val d) → ∃ v, σ[i]? = some (some v) ∧ Rep C S F d v
  own : ∀ (i : Nat) d, ρ[i]? = some (.own d) → ∃ a, σ[i]? = some (some (.ref a)) ∧ Own C S H0 F H d a
  dis : ∀ (i j : Nat) d e a, ρ[i]? = some (.own d) → ρ[j]? = some (.own e) → σ[i]? = some (some (.ref a)) → σ[j]? = some (some (.ref a)) → i = j
  sto : Sto S F H
/-- no own slot holds a -/
def NoSlot (σ : L2.St) (ρ : En) (a : Addr) : Prop := ∀ (i : Nat) d, ρ[i]? = some (.own d) → σ[i]? ≠ some (some (.ref a))
/-- how an expression leaves the state -/
structure Tr (S : SG) (ρ ρ' : En) (σ : L2.St) (F H F' H' : Hp) : Prop where
  f : Sub F F'
  dom : ∀ a, H a ≠ none → H' a ≠ none
  keep : ∀ a o, H a = some o → a ≠ S.p → NoSlot σ ρ a → H' a = some o
  owns : ∀ (i : Nat) d', ρ'[i]? = some (.own d') → ∃ d, ρ[i]? = some (.own d)
section
variable {C : CT} {S : SG} {F0 H0 F H F' H' F'' H'' : Hp} {σ : L2.St} {ρ ρ' ρ'' : En} {a : Addr} {d : D} {v : V}
theorem Tr.refl : Tr S ρ ρ σ F H F H := ⟨Sub.refl F, fun _ h => h, fun _ _ h _ _ => h, fun _ d h => ⟨d, h⟩⟩
theorem Tr.noslot (t : Tr S ρ ρ' σ F H F' H') (n : NoSlot σ ρ a) : NoSlot σ ρ' a := fun i d e => by
  obtain ⟨d', e'⟩ := t.owns i d e
  exact n i d' e'
theorem Tr.trans (t : Tr S ρ ρ' σ F H F' H') (u : Tr S ρ' ρ'' σ F' H' F'' H'') : Tr S ρ ρ'' σ F H F'' H'' where
  f := t.f.trans u.f
  dom := fun a h => u.dom a (t.dom a h)
  keep := fun a o h hp n => u.keep a o (t.keep a o h hp n) hp (t.noslot n)
  owns := fun i d e => by
    obtain ⟨d1, e1⟩ := u.owns i d e
    exact t.owns i d1 e1
theorem OK.new (I : OK C S F0 H0 F H σ ρ) (h : H a = none) : H0 a = none ∧ a ≠ S.p ∧ F a = none := by
  have hp : a ≠ S.p := fun e => I.sto.has (e ▸ h)
  refine ⟨?_, hp, I.sub.none h⟩
  cases q : H0 a with
  | none => rfl
  | some o => rw [I.fr a o hp q] at h; cases h
theorem OK.noslot (I : OK C S F0 H0 F H σ ρ) (h : H a = none) : NoSlot σ ρ a := fun i d e q => by
  obtain ⟨b, e1, _, _, _, k⟩ := I.own i d e
  rw [e1] at q
  cases q
  cases d with
  | lst ds =>
    obtain ⟨vs, z, _⟩ := k
    rw [h] at z; cases z
  | _ => exact k.elim
/-- a new object, frozen at once (a tuple) -/
theorem OK.newF (I : OK C S F0 H0 F H σ ρ) (h : H a = none) (o : HO) : OK C S F0 H0 (upd F a o) (upd H a o) σ ρ where
  sub := fun b u e => by
    by_cases hb : b = a
    · subst hb; rw [upd_same] at e ⊢; exact e
    · rw [upd_ne hb] at e ⊢; exact I.sub b u e
  fr := fun b u hb e => by
    have hx : b ≠ a := ne_of_none e (I.new h).1
    rw [upd_ne hx]; exact I.fr b u hb e
  p0 := I.p0
  f0 := I.f0.trans (Sub.upd (I.new h).2.2)
  fn := fun b u e => by
    by_cases hb : b = a
    · subst hb; exact .inr (I.new h).1
    · rw [upd_ne hb] at e; exact I.fn b u e
  len := I.len
  val := fun i d e => by
    obtain ⟨v, e1, r⟩ := I.val i d e
    exact ⟨v, e1, r.mono (Sub.upd (I.new h).2.2)⟩
  own := fun i d e => by
    obtain ⟨b, e1, h0, f, hp, k⟩ := I.own i d e
    have hb : b ≠ a := fun z => by subst z; exact I.noslot h i d e e1
    refine ⟨b, e1, h0, by rw [upd_ne hb]; exact f, hp, ?_⟩
    cases d with
    | lst ds =>
      obtain ⟨vs, z, r⟩ := k
      exact ⟨vs, by rw [upd_ne hb]; exact z, r.mono (Sub.upd (I.new h).2.2)⟩
    | _ => exact k.elim
  dis := I.dis
  sto := by
    obtain ⟨a', r, l, t, s, z, b⟩ := I.sto.st
    exact ⟨(Sub.upd (I.new h).2.2) _ _ I.sto.cells, by rw [upd_ne (Ne.symm (I.new h).2.1)]; exact I.sto.free, I.sto.len, a', r, l, t, s, by rw [upd_ne (Ne.symm (I.new h).2.1)]; exact z, b⟩
theorem Tr.newF (h : H a = none) (hf : F a = none) (o : HO) : Tr S ρ ρ σ F H (upd F a o) (upd H a o) where
  f := Sub.upd hf
  dom := fun b hb => by
    have hx : b ≠ a := fun z => by subst z; exact hb h
    rw [upd_ne hx]; exact hb
  keep := fun b u e _ _ => by
    have hx : b ≠ a := ne_of_none e h
    rw [upd_ne hx]
    exact e
  owns := fun _ d e => ⟨d, e⟩
/-- a new object, not frozen (a list) -/
theorem OK.newO (I : OK C S F0 H0 F H σ ρ) (h : H a = none) (o : HO) : OK C S F0 H0 F (upd H a o) σ ρ where
  sub := I.sub.trans (Sub.upd h)
  fr := fun b u hb e => (Sub.upd h) b u (I.fr b u hb e)
  p0 := I.p0
  f0 := I.f0
  fn := I.fn
  len := I.len
  val := I.val
  own := fun i d e => by
    obtain ⟨b, e1, h0, f, hp, k⟩ := I.own i d e
    refine ⟨b, e1, h0, f, hp, ?_⟩
    cases d with
    | lst ds =>
      obtain ⟨vs, z, r⟩ := k
      exact ⟨vs, (Sub.upd h) _ _ z, r⟩
    | _ => exact k.elim
  dis := I.dis
  sto := by
    obtain ⟨a', r, l, t, s, z, b⟩ := I.sto.st
    exact ⟨I.sto.cells, I.sto.free, I.sto.len, a', r, l, t, s, (Sub.upd h) _ _ z, b⟩
theorem Tr.newO (h : H a = none) (o : HO) : Tr S ρ ρ σ F H F (upd H a o) where
  f := Sub.refl F
  dom := fun b hb => by
    have hx : b ≠ a := fun z => by subst z; exact hb h
    rw [upd_ne hx]; exact hb
  keep := fun b u e _ _ => (Sub.upd h) b u e
  owns := fun _ d e => ⟨d, e⟩

/-! ### results -/
/-- what an expression gave, weakly: to be looked at or frozen -/
def RRep (C : CT) (S : SG) (H0 F H : Hp) (σ : L2.St) (ρ : En) (r : R) (v : V) : Prop :=
  match r with
  | .val d => Rep C S F d v
  | .tmp d => ∃ a, v = .ref a ∧ H0 a = none ∧ a ≠ S.p ∧ NoSlot σ ρ a ∧ (match d with
    | .lst ds => ∃ vs, H a = some (.lst vs) ∧ Reps C S F ds vs
    | _ => False)
  | .var i _ => σ[i]? = some (some v)
/-- .. strongly: a new thing is frozen by nobody -/
def RFresh (F : Hp) (ρ : En) (r : R) (v : V) : Prop :=
  match r with
  | .tmp _ => ∀ a, v = .ref a → F a = none
  | .var i d => ρ[i]? = some (.own d)
  | _ => True
theorem RFresh.lv {F : Hp} {ρ : En} {r : R} {v : V} (h : RFresh F ρ r v) : r.lv ρ True := by
  cases r with
  | var i d => exact ⟨.inl h, trivial⟩
  | _ => trivial
theorem RRep.tr {r : R} (h : RRep C S H0 F H σ ρ r v) (t : Tr S ρ ρ' σ F H F' H') : RRep C S H0 F' H' σ ρ' r v := by
  cases r with
  | val d => exact Rep.mono t.f d v h
  | tmp d =>
    obtain ⟨a, e, h0, hp, n, k⟩ := h
    refine ⟨a, e, h0, hp, t.noslot n, ?_⟩
    cases d with
    | lst ds =>
      obtain ⟨vs, z, r⟩ := k
      exact ⟨vs, t.keep a _ z hp n, r.mono t.f⟩
    | _ => exact k.elim
  | var i d => exact h
/-- a datum to be looked at -/
def View (C : CT) (S : SG) (F H : Hp) (d : D) (v : V) : Prop :=
  match d with
  | .lst ds => ∃ a vs, v = .ref a ∧ H a = some (.lst vs) ∧ Reps C S F ds vs
  | d => Rep C S F d v
theorem View.of (I : Sub F H) (h : Rep C S F d v) : View C S F H d v := by
  cases d with
  | lst ds =>
    unfold Rep at h
    obtain ⟨a, vs, e, q, r⟩ := h
    exact ⟨a, vs, e, I _ _ q, r⟩
  | _ => exact h
theorem view_of {r : R} {P : Prop} (I : OK C S F0 H0 F H σ ρ) (h : RRep C S H0 F H σ ρ r v) (l : r.lv ρ P) : View C S F H r.d v ∧ P := by
  cases r with
  | val d => exact ⟨View.of I.sub h, l⟩
  | tmp d =>
    obtain ⟨a, e, h0, hp, n, k⟩ := h
    refine ⟨?_, l⟩
    cases d with
    | lst ds =>
      obtain ⟨vs, z, r⟩ := k
      exact ⟨a, vs, e, z, r⟩
    | _ => exact k.elim
  | var i d =>
    have h' : σ[i]? = some (some v) := h
    obtain ⟨l, p⟩ := l
    refine ⟨?_, p⟩
    rcases l with l | l
    · obtain ⟨a, e1, h0, f, hp, k⟩ := I.own i d l
      rw [h'] at e1
      have e2 : v = .ref a := by simpa using e1
      show View C S F H d v
      cases d with
      | lst ds =>
        obtain ⟨vs, z, r⟩ := k
        exact ⟨a, vs, e2, z, r⟩
      | _ => exact k.elim
    · obtain ⟨w, e1, r⟩ := I.val i d l
      rw [h'] at e1
      have e2 : v = w := by simpa using e1
      rw [e2]
      exact View.of I.sub r
theorem get_set {α : Type} {l : List α} {i j : Nat} {x : α} {y : α} (h : (l.set i x)[j]? = some y) : (j = i ∧ y = x) ∨ (j ≠ i ∧ l[j]? = some y) := by
  by_cases e : i = j
  · subst e
    by_cases hl : i < l.length
    · rw [List.getElem?_set_self hl] at h
      exact .inl ⟨rfl, by simpa using h.symm⟩
    · rw [List.getElem?_eq_none (by simpa using hl)] at h
      cases h
  · rw [List.getElem?_set_ne e] at h
    exact .inr ⟨fun z => e z.symm, h⟩
/-- a list of nobody's slot is frozen -/
theorem OK.frz {vs : List V} (I : OK C S F0 H0 F H σ ρ) (h0 : H0 a = none) (hp : a ≠ S.p) (z : H a = some (.lst vs)) (hn : NoSlot σ ρ a) :
    ∃ F', OK C S F0 H0 F' H σ ρ ∧ Sub F F' ∧ F' a = some (.lst vs) ∧ (∀ b, b ≠ a → F' b = F b) := by
  cases q : F a with
  | some o =>
    have e := I.sub a o q
    rw [z] at e
    cases e
    exact ⟨F, I, Sub.refl F, q, fun _ _ => rfl⟩
  | none =>
    refine ⟨upd F a (.lst vs), ⟨fun b u e => ?_, I.fr, I.p0, I.f0.trans (Sub.upd q), fun b u e => ?_, I.len, fun i d e => ?_, fun i d e => ?_, I.dis, ?_⟩, Sub.upd q, upd_same, fun b hb => upd_ne hb⟩
    · by_cases hb : b = a
      · subst hb; rw [upd_same] at e; rw [← e]; exact z
      · rw [upd_ne hb] at e; exact I.sub b u e
    · by_cases hb : b = a
      · subst hb; exact .inr h0
      · rw [upd_ne hb] at e; exact I.fn b u e
    · obtain ⟨v, e1, r⟩ := I.val i d e
      exact ⟨v, e1, r.mono (Sub.upd q)⟩
    · obtain ⟨b, e1, h0', f, hp', k⟩ := I.own i d e
      have hb : b ≠ a := fun w => by subst w; exact hn i d e e1
      refine ⟨b, e1, h0', by rw [upd_ne hb]; exact f, hp', ?_⟩
      cases d with
      | lst ds =>
        obtain ⟨us, w, r⟩ := k
        exact ⟨us, w, r.mono (Sub.upd q)⟩
      | _ => exact k.elim
    · exact ⟨(Sub.upd q) _ _ I.sto.cells, by rw [upd_ne (Ne.symm hp)]; exact I.sto.free, I.sto.len, I.sto.st⟩
/-- the slot i is owned no more -/
theorem OK.val_of_own {i : Nat} {w : V} (I : OK C S F0 H0 F H σ ρ) (e : σ[i]? = some (some w)) (r : Rep C S F d w) : OK C S F0 H0 F H σ (ρ.set i (.val d)) where
  sub := I.sub
  fr := I.fr
  p0 := I.p0
  f0 := I.f0
  fn := I.fn
  len := by rw [List.length_set]; exact I.len
  val := fun j d' h => by
    rcases get_set h with ⟨rfl, z⟩ | ⟨_, z⟩
    · cases z
      exact ⟨w, e, r⟩
    · exact I.val j d' z
  own := fun j d' h => by
    rcases get_set h with ⟨_, z⟩ | ⟨_, z⟩
    · cases z
    · exact I.own j d' z
  dis := fun j k d' e' b h1 h2 => by
    rcases get_set h1 with ⟨_, z⟩ | ⟨_, z⟩
    · cases z
    · rcases get_set h2 with ⟨_, z2⟩ | ⟨_, z2⟩
      · cases z2
      · exact I.dis j k d' e' b z z2
  sto := I.sto
theorem owns_set {i : Nat} {ρ : En} (h : ∀ e, d ≠ e ∨ True) : ∀ (j : Nat) d', (ρ.set i (.val d))[j]? = some (.own d') → ∃ e, ρ[j]? = some (.own e) := fun j d' h => by
  rcases get_set h with ⟨_, z⟩ | ⟨_, z⟩
  · cases z
  · exact ⟨d', z⟩
/-- a slot is forgotten -/
theorem OK.un (I : OK C S F0 H0 F H σ ρ) (i : Nat) : OK C S F0 H0 F H σ (ρ.set i .un) where
  sub := I.sub
  fr := I.fr
  p0 := I.p0
  f0 := I.f0
  fn := I.fn
  len := by rw [List.length_set]; exact I.len
  val := fun j d' h => by
    rcases get_set h with ⟨_, z⟩ | ⟨_, z⟩
    · cases z
    · exact I.val j d' z
  own := fun j d' h => by
    rcases get_set h with ⟨_, z⟩ | ⟨_, z⟩
    · cases z
    · exact I.own j d' z
  dis := fun j k d' e' b h1 h2 => by
    rcases get_set h1 with ⟨_, z⟩ | ⟨_, z⟩
    · cases z
    · rcases get_set h2 with ⟨_, z2⟩ | ⟨_, z2⟩
      · cases z2
      · exact I.dis j k d' e' b z z2
  sto := I.sto
/-- FREEZE a result: its datum stands in a greater frozen part -/
theorem freeze {r : R} {P : Prop} (I : OK C S F0 H0 F H σ ρ) (h : RRep C S H0 F H σ ρ r v) (l : r.lv ρ P) :
    ∃ F', OK C S F0 H0 F' H σ (r.fz ρ) ∧ Tr S ρ (r.fz ρ) σ F H F' H ∧ Rep C S F' r.d v ∧ P := by
  cases r with
  | val d => exact ⟨F, I, Tr.refl, h, l⟩
  | tmp d =>
    obtain ⟨a, e, h0, hp, n, k⟩ := h
    cases d with
    | lst ds =>
      obtain ⟨vs, z, r⟩ := k
      obtain ⟨F', I', s, q, o⟩ := I.frz h0 hp z n
      exact ⟨F', I', ⟨s, fun _ x => x, fun b u hb _ _ => hb, fun _ d e => ⟨d, e⟩⟩, ⟨a, vs, e, q, r.mono s⟩, l⟩
    | _ => exact k.elim
  | var i d =>
    have h' : σ[i]? = some (some v) := h
    obtain ⟨l, p⟩ := l
    have ow : ∀ (j : Nat) d', (ρ.set i (.val d))[j]? = some (.own d') → ∃ e, ρ[j]? = some (.own e) := fun j d' e => by
      rcases get_set e with ⟨_, z⟩ | ⟨_, z⟩
      · cases z
      · exact ⟨d', z⟩
    rcases l with l | l
    · obtain ⟨a, e1, h0, f, hp, k⟩ := I.own i d l
      have e2 : v = .ref a := by rw [h'] at e1; simpa using e1
      cases d with
      | lst ds =>
        obtain ⟨vs, z, r⟩ := k
        have n : NoSlot σ (ρ.set i .un) a := fun j d' e q => by
          rcases get_set e with ⟨_, w⟩ | ⟨hj, w⟩
          · cases w
          · exact hj (I.dis j i d' _ a w l q e1)
        obtain ⟨F', I', s, q, o⟩ := (I.un i).frz h0 hp z n
        have rp : Rep C S F' (.lst ds) v := ⟨a, vs, e2, q, r.mono s⟩
        have I2 := I'.val_of_own h' rp
        rw [List.set_set] at I2
        exact ⟨F', I2, ⟨s, fun _ x => x, fun b u hb _ _ => hb, ow⟩, rp, p⟩
      | _ => exact k.elim
    · obtain ⟨w, e1, r⟩ := I.val i d l
      have e2 : v = w := by rw [h'] at e1; simpa using e1
      subst e2
      exact ⟨F, I.val_of_own h' r, ⟨Sub.refl F, fun _ x => x, fun b u hb _ _ => hb, ow⟩, r, p⟩
/-- results of a list of expressions -/
def RReps (C : CT) (S : SG) (H0 F H : Hp) (σ : L2.St) (ρ : En) : List R → List V → Prop
  | [], vs => vs = []
  | r :: rs, vs => ∃ v us, vs = v :: us ∧ RRep C S H0 F H σ ρ r v ∧ RReps C S H0 F H σ ρ rs us
theorem RReps.tr : ∀ {rs : List R} {vs : List V}, RReps C S H0 F H σ ρ rs vs → Tr S ρ ρ' σ F H F' H' → RReps C S H0 F' H' σ ρ' rs vs
  | [], _, h, _ => h
  | r :: rs, _, h, t => by
    obtain ⟨v, us, e, h1, h2⟩ := h
    exact ⟨v, us, e, h1.tr t, RReps.tr h2 t⟩
/-- data to be looked at -/
def Views (C : CT) (S : SG) (F H : Hp) : List D → List V → Prop
  | [], vs => vs = []
  | d :: ds, vs => ∃ v us, vs = v :: us ∧ View C S F H d v ∧ Views C S F H ds us
theorem views_of {P : Prop} (I : OK C S F0 H0 F H σ ρ) : ∀ {rs : List R} {vs : List V}, RReps C S H0 F H σ ρ rs vs → lvs rs ρ P → Views C S F H (rs.map R.d) vs ∧ P
  | [], _, h, l => ⟨h, l⟩
  | r :: rs, _, h, l => by
    obtain ⟨v, us, e, h1, h2⟩ := h
    obtain ⟨q1, l⟩ := view_of I h1 (show r.lv ρ (lvs rs ρ P) from l)
    obtain ⟨q2, p⟩ := views_of I h2 l
    exact ⟨⟨v, us, e, q1, q2⟩, p⟩
theorem lv_iff {r : R} {P : Prop} : r.lv ρ P ↔ r.lv ρ True ∧ P := by
  cases r with
  | var i d => exact ⟨fun ⟨a, b⟩ => ⟨⟨a, trivial⟩, b⟩, fun ⟨⟨a, _⟩, b⟩ => ⟨a, b⟩⟩
  | _ => exact ⟨fun h => ⟨trivial, h⟩, fun h => h.2⟩
/-- what stood in a slot stands there behind the freezing of another result -/
theorem lv_fz {r q : R} {P : Prop} (hq : q.lv ρ True) (h : r.lv ρ P) : r.lv (q.fz ρ) P := by
  cases r with
  | var i d =>
    obtain ⟨l, p⟩ := h
    refine ⟨?_, p⟩
    cases q with
    | var j e =>
      obtain ⟨k, _⟩ := hq
      show (ρ.set j (.val e))[i]? = _ ∨ (ρ.set j (.val e))[i]? = _
      by_cases hj : j = i
      · subst hj
        have hl : j < ρ.length := by
          rcases k with k | k <;> exact (List.getElem?_eq_some_iff.mp k).1
        have e2 : e = d := by
          rcases k with k | k <;> rcases l with l | l <;> (rw [k] at l; cases l) <;> rfl
        subst e2
        exact .inr (List.getElem?_set_self hl)
      · rw [List.getElem?_set_ne hj]
        exact l
    | _ => exact l
  | _ => exact h
theorem lvs_iff : ∀ {rs : List R} {ρ : En} {P : Prop}, lvs rs ρ P ↔ (∀ r ∈ rs, r.lv ρ True) ∧ P
  | [], ρ, P => ⟨fun h => ⟨(fun _ z => nomatch z), h⟩, fun h => h.2⟩
  | r :: rs, ρ, P => by
    show r.lv ρ (lvs rs ρ P) ↔ _
    rw [lv_iff, lvs_iff]
    constructor
    · rintro ⟨a, b, c⟩
      exact ⟨fun q hq => by rcases List.mem_cons.mp hq with rfl | hq; exact a; exact b q hq, c⟩
    · rintro ⟨a, c⟩
      exact ⟨a r List.mem_cons_self, fun q hq => a q (List.mem_cons_of_mem _ hq), c⟩
theorem freezes : ∀ {rs : List R} {vs : List V} {F : Hp} {ρ : En}, OK C S F0 H0 F H σ ρ → RReps C S H0 F H σ ρ rs vs → (∀ r ∈ rs, r.lv ρ True) →
    ∃ F', OK C S F0 H0 F' H σ (fzs rs ρ) ∧ Tr S ρ (fzs rs ρ) σ F H F' H ∧ Reps C S F' (rs.map R.d) vs
  | [], _, F, ρ, I, h, _ => ⟨F, I, Tr.refl, h⟩
  | r :: rs, _, F, ρ, I, h, l => by
    obtain ⟨v, us, e, h1, h2⟩ := h
    subst e
    obtain ⟨F1, I1, t1, r1, _⟩ := freeze (P := True) I h1 (l r List.mem_cons_self)
    obtain ⟨F2, I2, t2, r2⟩ := freezes I1 (h2.tr t1) fun q hq => lv_fz (l r List.mem_cons_self) (l q (List.mem_cons_of_mem _ hq))
    exact ⟨F2, I2, t1.trans t2, .cons (r1.mono t2.f) r2⟩
end
end VL
set_option maxHeartbeats 4000000
/-! VLc: the operations on values over the kit's rules. -/
namespace VL
open PySem PySem.Spec PyProof.Rows L2

theorem lim_le : lim ≤ sizeLine := by decide
section
variable {C : CT} {S : SG} {F0 H0 F H F' H' : Hp} {σ : L2.St} {ρ : En} {a : Addr} {d : D} {v : V}
/-- what is to hold of every result that k takes -/
def Gives (C : CT) (S : SG) (F0 H0 F H : Hp) (σ : L2.St) (ρ : En) (k : R → Prop) (Q : VK) : Prop :=
  ∀ r v F' H', OK C S F0 H0 F' H' σ ρ → Tr S ρ ρ σ F H F' H' → RRep C S H0 F' H' σ ρ r v → RFresh F' ρ r v → k r → Q v H'
theorem Gives.val {k : R → Prop} {Q : VK} (g : Gives C S F0 H0 F H σ ρ k Q) (I : OK C S F0 H0 F H σ ρ) (hd : Rep C S F d v) (hk : k (.val d)) : Q v H :=
  g (.val d) v F H I Tr.refl hd trivial hk
theorem Gives.newT {k : R → Prop} {Q : VK} {ds : List D} {vs : List V} (g : Gives C S F0 H0 F H σ ρ k Q) (I : OK C S F0 H0 F H σ ρ) (h : H a = none) (r : Reps C S F ds vs) (hk : k (.val (.tup ds))) : Q (.ref a) (upd H a (.tup vs)) :=
  g (.val (.tup ds)) _ _ _ (I.newF h _) (Tr.newF h (I.new h).2.2 _) ⟨a, vs, rfl, .inl (.inl upd_same), r.mono (Sub.upd (I.new h).2.2)⟩ trivial hk
theorem Gives.newL {k : R → Prop} {Q : VK} {ds : List D} {vs : List V} (g : Gives C S F0 H0 F H σ ρ k Q) (I : OK C S F0 H0 F H σ ρ) (h : H a = none) (r : Reps C S F ds vs) (hk : k (.tmp (.lst ds))) : Q (.ref a) (upd H a (.lst vs)) :=
  g (.tmp (.lst ds)) _ _ _ (I.newO h _) (Tr.newO h _) ⟨a, rfl, (I.new h).1, (I.new h).2.1, I.noslot h, vs, upd_same, r⟩ (fun b e => by cases e; exact (I.new h).2.2) hk
theorem View.int {i : Int} (h : View C S F H (.int i) v) : v = .int i := by
  have h' : Rep C S F (.int i) v := h
  unfold Rep at h'
  exact h'
theorem View.str {i : Str} (h : View C S F H (.str i) v) : v = .str i := by
  have h' : Rep C S F (.str i) v := h
  unfold Rep at h'
  exact h'
theorem View.bl {i : Bool} (h : View C S F H (.bl i) v) : v = .bl i := by
  have h' : Rep C S F (.bl i) v := h
  unfold Rep at h'
  exact h'
theorem View.non (h : View C S F H .non v) : v = .non := by
  have h' : Rep C S F .non v := h
  unfold Rep at h'
  exact h'
theorem View.tup {ds : List D} (s : Sub F H) (h : View C S F H (.tup ds) v) : ∃ a vs, v = .ref a ∧ SqT C.K H a vs ∧ Reps C S F ds vs := by
  have h' : Rep C S F (.tup ds) v := h
  unfold Rep at h'
  obtain ⟨a, vs, e, q, r⟩ := h'
  exact ⟨a, vs, e, s.sqT q, r⟩
theorem View.lst {ds : List D} (h : View C S F H (.lst ds) v) : ∃ a vs, v = .ref a ∧ H a = some (.lst vs) ∧ Reps C S F ds vs := h
theorem rep_int {i : Int} : Rep C S F (.int i) (.int i) := by unfold Rep; rfl
theorem rep_str {i : Str} : Rep C S F (.str i) (.str i) := by unfold Rep; rfl
theorem rep_bl {i : Bool} : Rep C S F (.bl i) (.bl i) := by unfold Rep; rfl
theorem rep_non : Rep C S F .non .non := by unfold Rep; rfl
theorem View.rep {ds : List D} (h : View C S F H (.tup ds) v) : Rep C S F (.tup ds) v := h

/-! ### two places -/
def rBin (C : CT) (op : Operator) : R2 := fun x y H Q => ∃ (S : SG) (F0 H0 F : Hp) (σ : L2.St) (ρ : En) (dx dy : D) (k : R → Prop), OK C S F0 H0 F H σ ρ ∧ View C S F H dx x ∧ View C S F H dy y ∧ vBin op dx dy k ∧ Gives C S F0 H0 F H σ ρ k Q
section
variable {X : Cx}
theorem op_powG : OpR X (binaryOp .Pow) (rI (fun i j => 0 ≤ j ∧ (Builtin.Int.intBits i : Int) * j ≤ 2 ^ 27) fun i j => .int (i ^ j.toNat)) := opI fun _ _ _ _ _ _ _ hc q => pow_int hc.1 hc.2 q
theorem op_shlG : OpR X (binaryOp .LShift) (rI (fun i j => 0 ≤ j ∧ (Builtin.Int.intBits i : Int) + j ≤ 2 ^ 27) fun i j => .int (i * 2 ^ j.toNat)) := opI fun _ _ _ _ _ _ _ hc q => lshift_int hc.1 hc.2 q
theorem MulOk.ok {i j : Int} (h : MulOk i j) : IntMulOk i j := by
  rcases h with h | h | h
  · exact CMulW.ok h
  · exact IntMulOk.of_left h
  · exact IntMulOk.of_right h
theorem op_mulG : OpR X (binaryOp .Mult) (rI MulOk fun i j => .int (i * j)) := opI fun _ _ _ _ _ _ _ hc q => mul_int q hc.ok
theorem op_bin (hK : X.K = C.K) (op : Operator) : OpR X (binaryOp op) (rBin C op) := by
  intro pins s σ' H x y v u Q I rx ry h
  obtain ⟨S, F0, H0, F, σ, ρ, dx, dy, k, O, hx, hy, hv, g⟩ := h
  unfold vBin at hv
  split at hv
  · cases hx.int; cases hy.int
    exact op_add pins s σ' H _ _ v u Q I rx ry ⟨_, _, rfl, rfl, g.val O rep_int hv⟩
  · cases hx.int; cases hy.int
    exact op_sub pins s σ' H _ _ v u Q I rx ry ⟨_, _, rfl, rfl, g.val O rep_int hv⟩
  · cases hx.int; cases hy.int
    exact op_mulG pins s σ' H _ _ v u Q I rx ry ⟨_, _, rfl, rfl, hv.1, g.val O rep_int hv.2⟩
  · cases hx.int; cases hy.int
    exact op_fdivW pins s σ' H _ _ v u Q I rx ry ⟨_, _, rfl, rfl, hv.1, g.val O rep_int hv.2⟩
  · cases hx.int; cases hy.int
    exact op_mod pins s σ' H _ _ v u Q I rx ry ⟨_, _, rfl, rfl, hv.1, g.val O rep_int hv.2⟩
  · cases hx.int; cases hy.int
    exact op_powG pins s σ' H _ _ v u Q I rx ry ⟨_, _, rfl, rfl, hv.1, g.val O rep_int hv.2⟩
  · cases hx.int; cases hy.int
    exact op_shlG pins s σ' H _ _ v u Q I rx ry ⟨_, _, rfl, rfl, hv.1, g.val O rep_int hv.2⟩
  · cases hx.int; cases hy.int
    exact op_shr pins s σ' H _ _ v u Q I rx ry ⟨_, _, rfl, rfl, hv.1, g.val O rep_int hv.2⟩
  · cases hx.int; cases hy.int
    exact op_and pins s σ' H _ _ v u Q I rx ry ⟨_, _, rfl, rfl, g.val O rep_int hv⟩
  · cases hx.int; cases hy.int
    exact op_or pins s σ' H _ _ v u Q I rx ry ⟨_, _, rfl, rfl, g.val O rep_int hv⟩
  · cases hx.str; cases hy.str
    exact op_add_str pins s σ' H _ _ v u Q I rx ry ⟨_, _, rfl, rfl, Nat.le_trans hv.1 lim_le, g.val O rep_str hv.2⟩
  · obtain ⟨a, vs, rfl, qa, ra⟩ := hx.tup O.sub
    obtain ⟨b, us, rfl, qb, rb⟩ := hy.tup O.sub
    refine op_catA pins s σ' H _ _ v u Q I rx ry ⟨a, b, vs, us, rfl, rfl, by rw [hK]; exact qa, by rw [hK]; exact qb, by rw [ra.len, rb.len]; exact Nat.le_trans hv.1 lim_le, fun e => ?_, fun _ e => ?_, fun _ _ p hp => g.newT O hp (ra.app rb) hv.2⟩
    · have e2 : (‹List D› : List D) = ‹List D› := rfl
      have l0 := ra.len
      subst e
      rename_i da db
      have : da = [] := by
        cases da with
        | nil => rfl
        | cons _ _ => simp at l0
      subst this
      exact g.val O hy.rep hv.2
    · have l0 := rb.len
      subst e
      rename_i da db _
      have : db = [] := by
        cases db with
        | nil => rfl
        | cons _ _ => simp at l0
      subst this
      rw [List.append_nil] at hv
      exact g.val O hx.rep hv.2
  · obtain ⟨a, vs, rfl, qa, ra⟩ := hx.lst
    obtain ⟨b, us, rfl, qb, rb⟩ := hy.lst
    exact op_cat pins s σ' H _ _ v u Q I rx ry ⟨a, b, vs, us, rfl, rfl, qa, qb, by rw [ra.len, rb.len]; exact Nat.le_trans hv.1 lim_le, fun p hp => g.newL O hp (ra.app rb) hv.2⟩
  · obtain ⟨a, vs, rfl, qa, ra⟩ := hx.tup O.sub
    cases hy.int
    obtain ⟨⟨h1, h2, h3, h4⟩, hk⟩ := hv
    refine op_repT pins s σ' H _ _ v u Q I rx ry ⟨a, _, vs, rfl, rfl, by rw [hK]; exact qa, fun e => h1 ?_, h2, h3, by rw [ra.len]; exact h4, fun p hp => g.newT O hp (ra.rep _) hk⟩
    have l0 := ra.len
    subst e
    exact List.eq_nil_of_length_eq_zero (by simpa using l0.symm)
  · obtain ⟨a, vs, rfl, qa, ra⟩ := hx.lst
    cases hy.int
    obtain ⟨⟨h1, h2, h3⟩, hk⟩ := hv
    exact op_rep pins s σ' H _ _ v u Q I rx ry ⟨a, _, vs, rfl, rfl, qa, h1, h2, by rw [ra.len]; exact Nat.le_trans h3 lim_le, fun p hp => g.newL O hp (ra.rep _) hk⟩
  · exact hv.elim
theorem un_negV : UnR X (unaryOp .USub) (fun x H Q => ∃ (S : SG) (F : Hp) (d : D), View C S F H d x ∧ vNeg d fun e => ∀ v, Rep C S F e v → Q v H) := by
  intro pins s σ' H x v Q I rx h
  obtain ⟨S, F, d, hx, hv⟩ := h
  unfold vNeg at hv
  split at hv
  · cases hx.int
    exact un_neg pins s σ' H _ v Q I rx ⟨_, rfl, hv _ rep_int⟩
  · exact hv.elim

/-! ### comparisons -/
mutual
theorem dp_of (hs : Sub F H) : ∀ (d : D) (p : PyData) (v : V), D.py d = some p → Rep C S F d v → Dp C.K H v p
  | .non, p, v, e, h => by
    unfold D.py at e; unfold Rep at h; cases e; subst h; exact .non
  | .bl b, p, v, e, h => by
    unfold D.py at e; unfold Rep at h; cases e; subst h; exact .bl b
  | .int i, p, v, e, h => by
    unfold D.py at e; unfold Rep at h; cases e; subst h; exact .int i
  | .str i, p, v, e, h => by
    unfold D.py at e; unfold Rep at h; cases e; subst h; exact .str i
  | .tok, p, v, e, h => by unfold D.py at e; cases e
  | .tup ds, p, v, e, h => by
    unfold D.py at e; unfold Rep at h
    obtain ⟨a, vs, rfl, q, r⟩ := h
    cases z : D.pys ds with
    | none => rw [z] at e; cases e
    | some ps =>
      rw [z] at e
      cases e
      exact .tup (hs.sqT q) (dps_of hs ds ps vs z r)
  | .lst ds, p, v, e, h => by
    unfold D.py at e; unfold Rep at h
    obtain ⟨a, vs, rfl, q, r⟩ := h
    cases z : D.pys ds with
    | none => rw [z] at e; cases e
    | some ps =>
      rw [z] at e
      cases e
      exact .lst (.of (hs _ _ q)) (dps_of hs ds ps vs z r)
  | .dic _, p, v, e, h => by unfold D.py at e; cases e
  | .obj _ _, p, v, e, h => by unfold D.py at e; cases e
theorem dps_of (hs : Sub F H) : ∀ (ds : List D) (ps : List PyData) (vs : List V), D.pys ds = some ps → Reps C S F ds vs → DpAll C.K H vs ps
  | [], ps, vs, e, h => by
    unfold D.pys at e; unfold Reps at h; cases e; subst h; exact .nil
  | d :: ds, ps, vs, e, h => by
    unfold D.pys at e; unfold Reps at h
    obtain ⟨v, r, rfl, h1, h2⟩ := h
    cases z : D.py d with
    | none => rw [z] at e; cases e
    | some x =>
      cases z2 : D.pys ds with
      | none => rw [z, z2] at e; cases e
      | some xs =>
        rw [z, z2] at e
        cases e
        exact .cons (dp_of hs d x v z h1) (dps_of hs ds xs r z2 h2)
end
theorem View.dp {p : PyData} (hs : Sub F H) (e : D.py d = some p) (h : View C S F H d v) : Dp C.K H v p := by
  cases d with
  | lst ds =>
    obtain ⟨a, vs, rfl, q, r⟩ := h.lst
    unfold D.py at e
    cases z : D.pys ds with
    | none => rw [z] at e; cases e
    | some ps =>
      rw [z] at e
      cases e
      exact .lst (.of q) (dps_of hs ds ps vs z r)
  | _ => exact dp_of (S := S) hs _ p v e h
theorem flat_rep (f : d.flat = true) (h : Rep C S F d v) : flatV v = true := by
  cases d <;> first | (unfold Rep at h; subst h; rfl) | (cases f)
theorem flat_reps : ∀ {ds : List D} {vs : List V}, ds.all D.flat = true → Reps C S F ds vs → vs.all flatV = true
  | [], _, _, h => by unfold Reps at h; subst h; rfl
  | d :: ds, _, f, h => by
    unfold Reps at h
    obtain ⟨v, r, rfl, h1, h2⟩ := h
    rw [List.all_cons, Bool.and_eq_true] at f ⊢
    exact ⟨flat_rep f.1 h1, flat_reps f.2 h2⟩
theorem eqF_rep {e : D} {w : V} (hd : Rep C S F d v) (he : Rep C S F e w) (f : d.flat = true) (g : e.flat = true) : eqV v w = eqF d e := by
  cases d <;> first | (cases f; done) | (unfold Rep at hd; subst hd)
  all_goals (cases e <;> first | (cases g; done) | (unfold Rep at he; subst he; rfl))
theorem inF_rep {w : V} {e : D} (he : Rep C S F e w) (g : e.flat = true) : ∀ {ds : List D} {vs : List V}, ds.all D.flat = true → Reps C S F ds vs → inV w vs = inF e ds
  | [], _, _, h => by unfold Reps at h; subst h; rfl
  | d :: ds, _, f, h => by
    unfold Reps at h
    obtain ⟨v, r, rfl, h1, h2⟩ := h
    rw [List.all_cons, Bool.and_eq_true] at f
    show (eqV v w || inV w r) = (eqF d e || inF e ds)
    rw [eqF_rep h1 he f.1 g, inF_rep he g f.2 h2]
theorem View.flat (f : d.flat = true) (h : View C S F H d v) : Rep C S F d v := by
  cases d <;> first | exact h | (cases f)
def rCmp (C : CT) (op : CmpOp) : R2 := fun x y H Q => ∃ (S : SG) (F : Hp) (dx dy : D), Sub F H ∧ View C S F H dx x ∧ View C S F H dy y ∧ vCmp op dx dy fun b => Q (.bl b) H
theorem op_inD (hK : X.K = C.K) {dx dy : D} {x y : V} {Q : VK} {pins : List (Addr × Obj)} {s : Shared} {σ : L2.St} {v u : Value} (hs : Sub F H) (I : Inv X pins σ H s) (rx : RelV x v) (ry : RelV y u) (hx : View C S F H dx x) (hy : View C S F H dy y)
    (neg : Bool) (hv : vIn dx dy fun b => Q (.bl (if neg then !b else b)) H) : wpAny (model X.prog X.w) X.A (compareOp (if neg then .NotIn else .In) v u) (EP X pins σ Q) X.xe s := by
  unfold vIn at hv
  split at hv
  · cases hx.str; cases hy.str
    cases neg
    · exact op_in_str pins s σ H _ _ v u Q I rx ry ⟨_, _, rfl, rfl, hv⟩
    · exact op_notIn_str pins s σ H _ _ v u Q I rx ry ⟨_, _, rfl, rfl, hv⟩
  · obtain ⟨f1, f2, hv⟩ := hv
    obtain ⟨a, vs, rfl, q, r⟩ := hy.lst
    have e := inF_rep (hx.flat f1) f1 f2 r
    rw [← e] at hv
    cases neg
    · exact op_in_seq pins s σ H _ _ v u Q I rx ry ⟨a, vs, rfl, .inl (.of q), flat_rep f1 (hx.flat f1), flat_reps f2 r, hv⟩
    · exact op_notIn_seq pins s σ H _ _ v u Q I rx ry ⟨a, vs, rfl, .inl (.of q), flat_rep f1 (hx.flat f1), flat_reps f2 r, hv⟩
  · obtain ⟨f1, f2, hv⟩ := hv
    obtain ⟨a, vs, rfl, q, r⟩ := hy.tup hs
    have e := inF_rep (hx.flat f1) f1 f2 r
    rw [← e] at hv
    cases neg
    · exact op_in_seq pins s σ H _ _ v u Q I rx ry ⟨a, vs, rfl, .inr (by rw [hK]; exact q), flat_rep f1 (hx.flat f1), flat_reps f2 r, hv⟩
    · exact op_notIn_seq pins s σ H _ _ v u Q I rx ry ⟨a, vs, rfl, .inr (by rw [hK]; exact q), flat_rep f1 (hx.flat f1), flat_reps f2 r, hv⟩
  · exact hv.elim
theorem dec_beq_bool (a b : Bool) : decide ((V.bl a) = V.bl b) = (a == b) := by cases a <;> cases b <;> rfl
theorem op_eqv (hK : X.K = C.K) (hu : X.A.units + 64 < cLine) {dx dy : D} {x y : V} {Q : VK} {pins : List (Addr × Obj)} {s : Shared} {σ : L2.St} {v u : Value} (hs : Sub F H) (I : Inv X pins σ H s) (rx : RelV x v) (ry : RelV y u) (hx : View C S F H dx x) (hy : View C S F H dy y)
    (neg : Bool) (hv : vEq dx dy fun b => Q (.bl (if neg then !b else b)) H) : wpAny (model X.prog X.w) X.A (compareOp (if neg then .NotEq else .Eq) v u) (EP X pins σ Q) X.xe s := by
  have sc : ∀ {x y : V}, RelV x v → RelV y u → scal x y = true → Q (.bl (if neg then !decide (x = y) else decide (x = y))) H → wpAny (model X.prog X.w) X.A (compareOp (if neg then .NotEq else .Eq) v u) (EP X pins σ Q) X.xe s := fun rx ry h q => by
    cases neg
    · exact op_eq pins s σ H _ _ v u Q I rx ry ⟨h, q⟩
    · exact op_ne pins s σ H _ _ v u Q I rx ry ⟨h, q⟩
  unfold vEq at hv
  split at hv
  · cases hx.non; cases hy.non
    exact sc rx ry rfl hv
  · cases hx.bl; cases hy.bl
    exact sc rx ry rfl (by rw [dec_beq_bool]; exact hv)
  · cases hx.int; cases hy.int
    refine sc rx ry rfl ?_
    rename_i a b
    have e : decide (V.int a = V.int b) = decide (a = b) := by
      by_cases q : a = b
      · subst q; simp
      · rw [decide_eq_false q, decide_eq_false fun z => q (V.int.inj z)]
    rw [e]; exact hv
  · cases hx.str; cases hy.str
    refine sc rx ry rfl ?_
    rename_i a b
    have e : decide (V.str a = V.str b) = decide (a = b) := by
      by_cases q : a = b
      · subst q; simp
      · rw [decide_eq_false q, decide_eq_false fun z => q (V.str.inj z)]
    rw [e]; exact hv
  · obtain ⟨p, q, ep, eq, sp, sq, hv⟩ := hv
    cases neg
    · exact op_eqD hu pins s σ H _ _ v u Q I rx ry ⟨p, q, by rw [hK]; exact hx.dp hs ep, by rw [hK]; exact hy.dp hs eq, sp, sq, hv⟩
    · exact op_neD hu pins s σ H _ _ v u Q I rx ry ⟨p, q, by rw [hK]; exact hx.dp hs ep, by rw [hK]; exact hy.dp hs eq, sp, sq, hv⟩
theorem View.isNon (h : View C S F H d v) : decide (v = .non) = (match d with | .non => true | _ => false) := by
  cases d with
  | non => cases h.non; rfl
  | bl b => cases h.bl; rfl
  | int b => cases h.int; rfl
  | str b => cases h.str; rfl
  | tok => have h' : Rep C S F .tok v := h; unfold Rep at h'; subst h'; rfl
  | tup ds => have h' : Rep C S F (.tup ds) v := h; unfold Rep at h'; obtain ⟨a, vs, rfl, _⟩ := h'; rfl
  | lst ds => obtain ⟨a, vs, rfl, _⟩ := h.lst; rfl
  | dic ks => have h' : Rep C S F (.dic ks) v := h; unfold Rep at h'; exact h'.elim
  | obj c fs => have h' : Rep C S F (.obj c fs) v := h; unfold Rep at h'; obtain ⟨a, dx, vs, rfl, _⟩ := h'; rfl
  | exn c fs => have h' : Rep C S F (.exn c fs) v := h; unfold Rep at h'; obtain ⟨a, dx, fl, vs, _, rfl, _⟩ := h'; rfl
theorem op_cmpV (hK : X.K = C.K) (hu : X.A.units + 64 < cLine) (op : CmpOp) : OpR X (compareOp op) (rCmp C op) := by
  intro pins s σ' H x y v u Q I rx ry h
  obtain ⟨S, F, dx, dy, hs, hx, hy, hv⟩ := h
  cases op with
  | Eq => exact op_eqv hK hu hs I rx ry hx hy false hv
  | NotEq => exact op_eqv hK hu hs I rx ry hx hy true hv
  | In => exact op_inD hK hs I rx ry hx hy false hv
  | NotIn => exact op_inD hK hs I rx ry hx hy true hv
  | Lt =>
    simp only [vCmp] at hv
    split at hv
    · cases hx.int; cases hy.int
      exact op_lt pins s σ' H _ _ v u Q I rx ry ⟨_, _, rfl, rfl, hv⟩
    · exact hv.elim
  | LtE =>
    simp only [vCmp] at hv
    split at hv
    · cases hx.int; cases hy.int
      exact op_le pins s σ' H _ _ v u Q I rx ry ⟨_, _, rfl, rfl, hv⟩
    · exact hv.elim
  | Gt =>
    simp only [vCmp] at hv
    split at hv
    · cases hx.int; cases hy.int
      exact op_gt pins s σ' H _ _ v u Q I rx ry ⟨_, _, rfl, rfl, hv⟩
    · exact hv.elim
  | GtE =>
    simp only [vCmp] at hv
    split at hv
    · cases hx.int; cases hy.int
      exact op_ge pins s σ' H _ _ v u Q I rx ry ⟨_, _, rfl, rfl, hv⟩
    · exact hv.elim
  | Is =>
    simp only [vCmp] at hv
    split at hv
    · cases hy.non
      refine op_isN pins s σ' H _ _ v u Q I rx ry ⟨rfl, ?_⟩
      rw [hx.isNon]
      split at hv
      · exact hv
      · rename_i h
        cases dx <;> first | exact hv | exact absurd rfl h
    · exact hv.elim
  | IsNot =>
    simp only [vCmp] at hv
    split at hv
    · cases hy.non
      refine op_notN pins s σ' H _ _ v u Q I rx ry ⟨rfl, ?_⟩
      rw [hx.isNon]
      split at hv
      · exact hv
      · rename_i h
        cases dx <;> first | exact hv | exact absurd rfl h
    · exact hv.elim

/-! ### truth -/
theorem tru_of (hK : X.K = C.K) (hs : Sub F H) {Q : Bool → Hp → Prop} (h : View C S F H d v) (hv : truth d fun b => Q b H) : ∃ k, TruV X.K v H k ∧ Q k H := by
  unfold truth at hv
  split at hv
  · cases h.non; exact ⟨_, rfl, hv⟩
  · cases h.bl; exact ⟨_, rfl, hv⟩
  · cases h.int
    refine ⟨_, rfl, ?_⟩
    rename_i i
    have e : (i != 0) = !decide (i = 0) := by
      by_cases q : i = 0
      · subst q; rfl
      · rw [decide_eq_false q]; simp [q]
    rw [e]; exact hv
  · cases h.str
    obtain ⟨hl, hv⟩ := hv
    rename_i i
    refine ⟨_, ⟨Nat.le_trans hl lim_le, rfl⟩, ?_⟩
    have e : ((i.length : Int) != 0) = !decide (i.length = 0) := by
      by_cases q : i.length = 0
      · rw [q]; rfl
      · rw [decide_eq_false q]
        have : ((i.length : Int) != 0) = true := by simpa using q
        rw [this] <;> rfl
    rw [e]; exact hv
  · obtain ⟨a, vs, rfl, q, r⟩ := h.tup hs
    rename_i ds
    refine ⟨!vs.isEmpty, .inr (.inl ⟨vs, by rw [hK]; exact q, rfl⟩), ?_⟩
    have l := r.len
    have e : vs.isEmpty = ds.isEmpty := by cases vs <;> cases ds <;> first | rfl | simp at l
    rw [e]; exact hv
  · obtain ⟨a, vs, rfl, q, r⟩ := h.lst
    rename_i ds
    refine ⟨!vs.isEmpty, .inl ⟨vs, .of q, rfl⟩, ?_⟩
    have l := r.len
    have e : vs.isEmpty = ds.isEmpty := by cases vs <;> cases ds <;> first | rfl | simp at l
    rw [e]; exact hv
  · have h' : Rep C S F _ v := h
    unfold Rep at h'
    exact h'.elim
  · exact hv.elim

/-! ### items, parts -/
theorem atI_len {α β : Type} {xs : List α} {ys : List β} {i : Int} {x : α} (l : ys.length = xs.length) (h : L2.atI xs i = some x) : ∃ j, ixN xs.length i = some j ∧ xs[j]? = some x ∧ ixN ys.length i = some j := by
  unfold L2.atI at h
  cases q : ixN xs.length i with
  | none => rw [q] at h; cases h
  | some j =>
    rw [q] at h
    exact ⟨j, rfl, h, by rw [l]; exact q⟩
theorem atI_reps {ds : List D} {vs : List V} {i : Int} (r : Reps C S F ds vs) (h : L2.atI ds i = some d) : ∃ v, L2.atI vs i = some v ∧ Rep C S F d v := by
  obtain ⟨j, _, e2, e3⟩ := atI_len r.len h
  obtain ⟨v, e4, rv⟩ := r.at e2
  refine ⟨v, ?_, rv⟩
  unfold L2.atI
  rw [e3]
  exact e4
def rIxV (C : CT) : R2 := fun x y H Q => ∃ (S : SG) (F : Hp) (dx dy : D), Sub F H ∧ View C S F H dx x ∧ View C S F H dy y ∧ vIx dx dy fun d => ∀ v, Rep C S F d v → Q v H
theorem ix_V (hK : X.K = C.K) : IxR X (rIxV C) := by
  intro va sl pins s σ' H x y v u Q I rx ry h hsl
  obtain ⟨S, F, dx, dy, hs, hx, hy, hv⟩ := h
  unfold vIx at hv
  split at hv
  · obtain ⟨a, vs, rfl, q, r⟩ := hx.lst
    cases hy.int
    obtain ⟨d, e, k⟩ := hv
    obtain ⟨w, e2, rw1⟩ := atI_reps r e
    exact ix_list va sl pins s σ' H _ _ v u Q I rx ry ⟨a, vs, _, w, rfl, rfl, .of q, e2, k w rw1⟩ hsl
  · obtain ⟨a, vs, rfl, q, r⟩ := hx.tup hs
    cases hy.int
    obtain ⟨d, e, k⟩ := hv
    obtain ⟨w, e2, rw1⟩ := atI_reps r e
    exact ix_tup va sl pins s σ' H _ _ v u Q I rx ry ⟨a, vs, _, w, rfl, rfl, by simp only [hK]; exact q, e2, k w rw1⟩ hsl
  · cases hx.str; cases hy.int
    obtain ⟨hl, c, e, k⟩ := hv
    exact ix_str va sl pins s σ' H _ _ v u Q I rx ry ⟨_, _, c, rfl, rfl, Nat.le_trans hl lim_le, e, k _ rep_str⟩ hsl
  · exact hv.elim
def rSlV (C : CT) : V → Option Int → Option Int → Hp → VK → Prop := fun x lo hi H Q => ∃ (S : SG) (F0 H0 F : Hp) (σ : L2.St) (ρ : En) (dx : D) (k : R → Prop), OK C S F0 H0 F H σ ρ ∧ View C S F H dx x ∧ vSl dx lo hi k ∧ Gives C S F0 H0 F H σ ρ k Q
theorem cutD_eq {ds : List D} {vs : List V} {lo hi : Option Int} (r : Reps C S F ds vs) : Reps C S F (cutD ds lo hi) (cutV vs lo hi) := by
  unfold cutD cutV
  rw [r.len]
  exact (r.drop _).take _
theorem sl_V (hK : X.K = C.K) : SlR X (rSlV C) := by
  intro pins s σ' H x v vl vu lo hi sl Q I rx hs pl pu h
  obtain ⟨S, F0, H0, F, σ, ρ, dx, k, O, hx, hv, g⟩ := h
  unfold vSl at hv
  split at hv
  · obtain ⟨a, vs, rfl, q, r⟩ := hx.lst
    exact sl_list pins s σ' H _ v vl vu lo hi sl Q I rx hs pl pu ⟨a, vs, rfl, .of q, fun p hp => g.newL O hp (cutD_eq r) hv⟩
  · obtain ⟨a, vs, rfl, q, r⟩ := hx.tup O.sub
    rename_i ds
    refine sl_tupA pins s σ' H _ v vl vu lo hi sl Q I rx hs pl pu ⟨a, vs, rfl, by rw [hK]; exact q, fun ⟨e1, e2⟩ => ?_, fun _ p hp => g.newT O hp (cutD_eq r) hv⟩
    have e : cutD ds lo hi = ds := by
      unfold cutD
      rw [r.len] at e1 e2
      rw [e1, e2]
      simp
    rw [e] at hv
    exact g.val O hx.rep hv
  · exact hv.elim

/-! ### built-in functions -/
def bV : B → Value
  | .len => .builtin "len"
  | .abs => .builtin "abs"
  | .max => .builtin "max"
  | .min => .builtin "min"
  | .int => .type "int"
  | .str => .type "str"
  | .sum => .builtin "sum"
  | .any => .builtin "any"
  | .all => .builtin "all"
  | .sorted => .builtin "sorted"
  | .list => .type "list"
  | .tuple => .type "tuple"
  | .bool => .type "bool"
  | .repr => .builtin "repr"
  | .range => .type "range"
  | .set => .type "set"
  | .dict => .type "dict"
/-- built-ins that are asked only where no exception is handled -/
def rBlt (C : CT) (b : B) : List V → Hp → VK → Prop := fun xs H Q => ∃ (S : SG) (F0 H0 F : Hp) (σ : L2.St) (ρ : En) (ds : List D) (k : R → Prop), OK C S F0 H0 F H σ ρ ∧ Views C S F H ds xs ∧ b ≠ .range ∧ vBlt b ds k ∧ Gives C S F0 H0 F H σ ρ k Q
theorem views1 {xs : List V} (h : Views C S F H [d] xs) : ∃ v, xs = [v] ∧ View C S F H d v := by
  obtain ⟨v, us, rfl, h1, h2⟩ := h
  cases (show us = [] from h2)
  exact ⟨v, rfl, h1⟩
theorem views2 {xs : List V} {e : D} (h : Views C S F H [d, e] xs) : ∃ v w, xs = [v, w] ∧ View C S F H d v ∧ View C S F H e w := by
  obtain ⟨v, us, rfl, h1, h2⟩ := h
  obtain ⟨w, rfl, h3⟩ := views1 h2
  exact ⟨v, w, rfl, h1, h3⟩
/-- what may be asked within an except suite -/
def B.hotOk : B → Bool
  | .len => true
  | .abs => true
  | .int => true
  | .list => true
  | .tuple => true
  | .sorted => true
  | _ => false
theorem call_blt (hK : X.K = C.K) {b : B} (hc : X.calm = true ∨ b.hotOk = true) : CallR X (bV b) (rBlt C b) := by
  intro pins s σ' H xs us Q I rx h
  obtain ⟨S, F0, H0, F, σ, ρ, ds, k, O, hx, hr, hv, g⟩ := h
  unfold vBlt at hv
  split at hv
  · obtain ⟨v, rfl, h1⟩ := views1 hx
    obtain ⟨a, vs, rfl, q, r⟩ := h1.lst
    exact call_len_seq pins s σ' H _ us Q I rx ⟨a, vs, rfl, .inl (.of q), by rw [r.len]; exact g.val O rep_int hv⟩
  · obtain ⟨v, rfl, h1⟩ := views1 hx
    obtain ⟨a, vs, rfl, q, r⟩ := h1.tup O.sub
    exact call_len_seq pins s σ' H _ us Q I rx ⟨a, vs, rfl, .inr (by rw [hK]; exact q), by rw [r.len]; exact g.val O rep_int hv⟩
  · obtain ⟨v, rfl, h1⟩ := views1 hx
    cases h1.str
    exact call_len_str pins s σ' H _ us Q I rx ⟨_, rfl, Nat.le_trans hv.1 lim_le, g.val O rep_int hv.2⟩
  · obtain ⟨v, rfl, h1⟩ := views1 hx
    cases h1.int
    exact call_abs pins s σ' H _ us Q I rx ⟨_, rfl, g.val O rep_int hv⟩
  · obtain ⟨v, w, rfl, h1, h2⟩ := views2 hx
    cases h1.int; cases h2.int
    exact call_max2 (hc.resolve_right (by simp [B.hotOk])) pins s σ' H _ us Q I rx ⟨_, _, rfl, g.val O rep_int hv⟩
  · obtain ⟨v, w, rfl, h1, h2⟩ := views2 hx
    cases h1.int; cases h2.int
    exact call_min2 (hc.resolve_right (by simp [B.hotOk])) pins s σ' H _ us Q I rx ⟨_, _, rfl, g.val O rep_int hv⟩
  · obtain ⟨v, rfl, h1⟩ := views1 hx
    cases h1.int
    exact call_int1 pins s σ' H _ us Q I rx (.inl ⟨_, rfl, g.val O rep_int hv⟩)
  · obtain ⟨v, rfl, h1⟩ := views1 hx
    cases h1.bl
    exact call_int1 pins s σ' H _ us Q I rx (.inr ⟨_, rfl, g.val O rep_int hv⟩)
  · obtain ⟨v, rfl, h1⟩ := views1 hx
    obtain ⟨a, vs, rfl, q, r⟩ := h1.lst
    exact call_list_of pins s σ' H _ us Q I rx ⟨a, vs, rfl, .inl (.of q), fun l hl => g.newL O hl r hv⟩
  · obtain ⟨v, rfl, h1⟩ := views1 hx
    obtain ⟨a, vs, rfl, q, r⟩ := h1.tup O.sub
    exact call_list_of pins s σ' H _ us Q I rx ⟨a, vs, rfl, .inr (by rw [hK]; exact q), fun l hl => g.newL O hl r hv⟩
  · obtain ⟨v, rfl, h1⟩ := views1 hx
    obtain ⟨a, vs, rfl, q, r⟩ := h1.lst
    exact call_tuple_of pins s σ' H _ us Q I rx ⟨a, vs, rfl, .inl ⟨.of q, fun l hl => g.newT O hl r hv⟩⟩
  · obtain ⟨v, rfl, h1⟩ := views1 hx
    obtain ⟨a, vs, rfl, q, r⟩ := h1.tup O.sub
    exact call_tuple_of pins s σ' H _ us Q I rx ⟨a, vs, rfl, .inr ⟨by rw [hK]; exact q, g.val O h1.rep hv⟩⟩
  · obtain ⟨v, rfl, h1⟩ := views1 hx
    obtain ⟨a, vs, rfl, q, r⟩ := h1.lst
    obtain ⟨ns, e, hv⟩ := hv
    have e2 := r.intsD e
    subst e2
    exact cr_sum (hc.resolve_right (by simp [B.hotOk])) pins s σ' H _ us Q I rx ⟨a, ns, rfl, .of q, g.val O rep_int hv⟩
  · obtain ⟨v, rfl, h1⟩ := views1 hx
    obtain ⟨a, vs, rfl, q, r⟩ := h1.lst
    obtain ⟨ns, e, hv⟩ := hv
    have e2 := r.boolsD e
    subst e2
    exact cr_any (hc.resolve_right (by simp [B.hotOk])) pins s σ' H _ us Q I rx ⟨a, ns, rfl, .of q, g.val O rep_bl hv⟩
  · obtain ⟨v, rfl, h1⟩ := views1 hx
    obtain ⟨a, vs, rfl, q, r⟩ := h1.lst
    obtain ⟨ns, e, hv⟩ := hv
    have e2 := r.boolsD e
    subst e2
    exact cr_all (hc.resolve_right (by simp [B.hotOk])) pins s σ' H _ us Q I rx ⟨a, ns, rfl, .of q, g.val O rep_bl hv⟩
  · obtain ⟨v, rfl, h1⟩ := views1 hx
    obtain ⟨a, vs, rfl, q, r⟩ := h1.lst
    obtain ⟨ns, e, _, hv⟩ := hv
    have e2 := r.intsD e
    subst e2
    exact cr_sortedI pins s σ' H _ us Q I rx ⟨a, ns, rfl, .of q, fun ms p hp hw hn => g.newL O hn (.ofInts ms) (hv ms hp hw)⟩
  · exact absurd rfl hr
  · exact hv.elim
theorem isin_V (hK : X.K = C.K) {n : String} {Q : VK} {x : V} (hs : Sub F H) (h : View C S F H d x) (hn : n ∈ ["NoneType", "bool", "int", "str", "list", "tuple", "dict"]) (hv : vIsin d (.bi n) fun b => Q (.bl b) H) : rIsi X.K [x, .ty n] H Q := by
  simp only [vIsin] at hv
  have kit : ∀ a : String, a ∈ ["NoneType", "bool", "int", "str", "list", "tuple", "dict"] → kitB a n = some (a == n || (a == "bool" && n == "int")) := by
    intro a ha
    simp only [List.mem_cons, List.not_mem_nil, or_false] at ha hn
    rcases ha with rfl | rfl | rfl | rfl | rfl | rfl | rfl <;> rcases hn with rfl | rfl | rfl | rfl | rfl | rfl | rfl <;> decide +kernel
  split at hv
  · cases h.non
    refine ⟨_, _, _, _, _, rfl, .ty n, .base .non, kit_ty (kit _ (by simp)), ?_⟩
    have e : (("NoneType" : String) == n || ("NoneType" == "bool" && n == "int")) = (n == "NoneType") := by
      simp only [List.mem_cons, List.not_mem_nil, or_false] at hn
      rcases hn with rfl | rfl | rfl | rfl | rfl | rfl | rfl <;> decide +kernel
    rw [e]; exact hv
  · cases h.bl
    refine ⟨_, _, _, _, _, rfl, .ty n, .base (.bl _), kit_ty (kit _ (by simp)), ?_⟩
    have e : (("bool" : String) == n || ("bool" == "bool" && n == "int")) = (n == "bool" || n == "int") := by
      simp only [List.mem_cons, List.not_mem_nil, or_false] at hn
      rcases hn with rfl | rfl | rfl | rfl | rfl | rfl | rfl <;> decide +kernel
    rw [e]; exact hv
  · cases h.int
    refine ⟨_, _, _, _, _, rfl, .ty n, .base (.int _), kit_ty (kit _ (by simp)), ?_⟩
    have e : (("int" : String) == n || ("int" == "bool" && n == "int")) = (n == "int") := by
      simp only [List.mem_cons, List.not_mem_nil, or_false] at hn
      rcases hn with rfl | rfl | rfl | rfl | rfl | rfl | rfl <;> decide +kernel
    rw [e]; exact hv
  · cases h.str
    refine ⟨_, _, _, _, _, rfl, .ty n, .base (.str _), kit_ty (kit _ (by simp)), ?_⟩
    have e : (("str" : String) == n || ("str" == "bool" && n == "int")) = (n == "str") := by
      simp only [List.mem_cons, List.not_mem_nil, or_false] at hn
      rcases hn with rfl | rfl | rfl | rfl | rfl | rfl | rfl <;> decide +kernel
    rw [e]; exact hv
  · obtain ⟨a, vs, rfl, q, r⟩ := h.lst
    refine ⟨_, _, _, _, _, rfl, .ty n, .base (.lst q), kit_ty (kit _ (by simp)), ?_⟩
    have e : (("list" : String) == n || ("list" == "bool" && n == "int")) = (n == "list") := by
      simp only [List.mem_cons, List.not_mem_nil, or_false] at hn
      rcases hn with rfl | rfl | rfl | rfl | rfl | rfl | rfl <;> decide +kernel
    rw [e]; exact hv
  · obtain ⟨a, vs, rfl, q, r⟩ := h.tup hs
    have e : (("tuple" : String) == n || ("tuple" == "bool" && n == "int")) = (n == "tuple") := by
      simp only [List.mem_cons, List.not_mem_nil, or_false] at hn
      rcases hn with rfl | rfl | rfl | rfl | rfl | rfl | rfl <;> decide +kernel
    rcases q with (q | ⟨o, q⟩) | ⟨o, its, m, hk, hc, _⟩
    · exact ⟨_, _, _, _, _, rfl, .ty n, .base (.tup q), kit_ty (kit _ (by simp)), by rw [e]; exact hv⟩
    · exact ⟨_, _, _, _, _, rfl, .ty n, .fTuple q, kit_ty (kit _ (by simp)), by rw [e]; exact hv⟩
    · exact ⟨_, _, _, _, _, rfl, .ty n, .kTuple (by rw [hK]; exact hk) hc, kit_ty (kit _ (by simp)), by rw [e]; exact hv⟩
  · have h' : Rep C S F _ x := h
    unfold Rep at h'
    exact h'.elim
  · exact hv.elim

/-! ### methods of built-in types -/
/-- the own list at slot i is changed -/
theorem OK.setOwn {i : Nat} {d0 : D} {ds : List D} {vs : List V} (I : OK C S F0 H0 F H σ ρ) (h : ρ[i]? = some (.own d0)) (e : σ[i]? = some (some (.ref a))) (r : Reps C S F ds vs) :
    OK C S F0 H0 F (upd H a (.lst vs)) σ (ρ.set i (.own (.lst ds))) ∧ Tr S ρ (ρ.set i (.own (.lst ds))) σ F H F (upd H a (.lst vs)) := by
  obtain ⟨a', e1, h0, f, hp, k⟩ := I.own i d0 h
  have ea : a' = a := by rw [e] at e1; cases e1; rfl
  subst ea
  have hn : ∀ b, NoSlot σ ρ b → b ≠ a' := fun b n z => by subst z; exact n i d0 h e
  refine ⟨⟨fun b u q => ?_, fun b u hb q => ?_, I.p0, I.f0, I.fn, by rw [List.length_set]; exact I.len, fun j d q => ?_, fun j d q => ?_, fun j k' d1 e2 b q1 q2 s1 s2 => ?_, ?_⟩, ⟨Sub.refl F, fun b q => ?_, fun b u q hb n => ?_, fun j d q => ?_⟩⟩
  · have hb : b ≠ a' := fun z => by subst z; rw [f] at q; cases q
    rw [upd_ne hb]; exact I.sub b u q
  · have hx : b ≠ a' := fun z => by subst z; rw [h0] at q; cases q
    rw [upd_ne hx]; exact I.fr b u hb q
  · rcases get_set q with ⟨_, z⟩ | ⟨_, z⟩
    · cases z
    · exact I.val j d z
  · rcases get_set q with ⟨hj, z⟩ | ⟨hj, z⟩
    · cases z
      subst hj
      exact ⟨a', e1, h0, f, hp, vs, upd_same, r⟩
    · obtain ⟨b, e2, h02, f2, hp2, k2⟩ := I.own j d z
      have hb : b ≠ a' := fun w => by subst w; exact hj (I.dis j i d d0 b z h e2 e1)
      refine ⟨b, e2, h02, f2, hp2, ?_⟩
      cases d with
      | lst es =>
        obtain ⟨us, w, r2⟩ := k2
        exact ⟨us, by rw [upd_ne hb]; exact w, r2⟩
      | _ => exact k2.elim
  · have o : ∀ {j : Nat} {d : D}, (ρ.set i (.own (.lst ds)))[j]? = some (.own d) → ∃ d', ρ[j]? = some (.own d') := fun {j d} q => by
      rcases get_set q with ⟨hj, z⟩ | ⟨hj, z⟩
      · subst hj; exact ⟨d0, h⟩
      · exact ⟨d, z⟩
    obtain ⟨_, o1⟩ := o q1
    obtain ⟨_, o2⟩ := o q2
    exact I.dis j k' _ _ b o1 o2 s1 s2
  · obtain ⟨x, y, l, t, s, z, b⟩ := I.sto.st
    exact ⟨I.sto.cells, I.sto.free, I.sto.len, x, y, l, t, s, by rw [upd_ne (Ne.symm hp)]; exact z, b⟩
  · by_cases hb : b = a'
    · subst hb; rw [upd_same]; exact fun z => by cases z
    · rw [upd_ne hb]; exact q
  · rw [upd_ne (hn b n)]; exact q
  · rcases get_set q with ⟨hj, z⟩ | ⟨hj, z⟩
    · subst hj; exact ⟨d0, h⟩
    · exact ⟨d, z⟩
def rMet (C : CT) (m : M) : V → List V → Hp → VK → Prop := fun x xs H Q => ∃ (S : SG) (F0 H0 F : Hp) (σ : L2.St) (ρ : En) (rx : R) (rs : List R) (K : EK), OK C S F0 H0 F H σ ρ ∧ RRep C S H0 F H σ ρ rx x ∧ RReps C S H0 F H σ ρ rs xs ∧ rx.lv ρ True ∧ (∀ r ∈ rs, r.lv ρ True) ∧ vMet m rx rs ρ K ∧
  ∀ r ρ' v F' H', OK C S F0 H0 F' H' σ ρ' → Tr S ρ ρ' σ F H F' H' → RRep C S H0 F' H' σ ρ' r v → RFresh F' ρ' r v → K r ρ' → Q v H'
/-- a slot's own list -/
theorem own_at {i : Nat} {ds : List D} {x : V} (I : OK C S F0 H0 F H σ ρ) (h : ρ[i]? = some (.own (.lst ds))) (e : RRep C S H0 F H σ ρ (.var i d) x) : ∃ a vs, x = .ref a ∧ σ[i]? = some (some (.ref a)) ∧ H a = some (.lst vs) ∧ Reps C S F ds vs := by
  obtain ⟨a, e1, _, _, _, vs, z, r⟩ := I.own i _ h
  have e' : σ[i]? = some (some x) := e
  rw [e'] at e1
  cases e1
  exact ⟨a, vs, rfl, e', z, r⟩
theorem rreps1 {r : R} {xs : List V} (h : RReps C S H0 F H σ ρ [r] xs) : ∃ v, xs = [v] ∧ RRep C S H0 F H σ ρ r v := by
  obtain ⟨v, us, rfl, h1, h2⟩ := h
  cases (show us = [] from h2)
  exact ⟨v, rfl, h1⟩
theorem rreps2 {r q : R} {xs : List V} (h : RReps C S H0 F H σ ρ [r, q] xs) : ∃ v w, xs = [v, w] ∧ RRep C S H0 F H σ ρ r v ∧ RRep C S H0 F H σ ρ q w := by
  obtain ⟨v, us, rfl, h1, h2⟩ := h
  obtain ⟨w, rfl, h3⟩ := rreps1 h2
  exact ⟨v, w, rfl, h1, h3⟩
theorem rrep_non {H : Hp} : RRep C S H0 F H σ ρ (.val .non) .non := rep_non (C := C) (S := S) (F := F)
theorem lim_lt {n : Nat} (h : n < lim) : n < sizeLine := Nat.lt_of_lt_of_le h lim_le
theorem mt_appendV : MtR X "list.append" (rMet C .append) := by
  intro pins s σ' H x xs v us Q I rx rxs h
  obtain ⟨S, F0, H0, F, σ, ρ, r0, rs, K, O, hr0, hrs, l0, ls, hv, g⟩ := h
  unfold vMet at hv
  split at hv <;> try (rename_i hm; cases hm; done)
  all_goals try (exact hv.elim)
  rename_i i ds r _
  obtain ⟨⟨ho, hz⟩, hk⟩ := hv
  obtain ⟨y, rfl, hy⟩ := rreps1 hrs
  obtain ⟨F1, O1, t1, r1, _⟩ := freeze (P := True) O hy (ls r (by simp))
  obtain ⟨a, vs, rfl, e1, z, rv⟩ := own_at O1 ho (RRep.tr hr0 t1)
  obtain ⟨O2, t2⟩ := O1.setOwn ho e1 (rv.app (.cons r1 .nil))
  exact mt_append pins s σ' H _ _ v us Q I rx rxs ⟨a, vs, y, rfl, rfl, z, by rw [rv.len]; exact lim_lt hz, g (.val .non) _ _ _ _ O2 (t1.trans t2) rrep_non trivial hk⟩
theorem mt_popV0 : MtR X "list.pop" (fun x xs H Q => xs = [] ∧ rMet C .pop x xs H Q) := by
  intro pins s σ' H x xs v us Q I rx rxs h
  obtain ⟨hx0, S, F0, H0, F, σ, ρ, r0, rs, K, O, hr0, hrs, l0, ls, hv, g⟩ := h
  subst hx0
  cases rs with
  | cons r rs => obtain ⟨_, _, e, _⟩ := hrs; cases e
  | nil =>
    unfold vMet at hv
    split at hv <;> try (rename_i hm; cases hm; done)
    all_goals try (exact hv.elim)
    all_goals try (rename_i hm _; cases hm; done)
    · rename_i i ds _ _
      obtain ⟨ho, d, hd, hk⟩ := hv
      obtain ⟨a, vs, rfl, e1, z, rv⟩ := own_at O ho hr0
      obtain ⟨O2, t2⟩ := O.setOwn ho e1 rv.dropLast
      obtain ⟨y, hy, ry⟩ := rv.at hd
      exact mt_pop pins s σ' H _ _ v us Q I rx rxs ⟨a, vs, y, rfl, rfl, z, by rw [rv.len]; exact hy, g (.val d) _ _ _ _ O2 t2 ry trivial hk⟩
theorem seqIx {n : Nat} {k : Int} (h : 0 ≤ k) (h2 : k.toNat < n) : seqIndex? k n = some k.toNat := (ixN_seq (j := k.toNat) (by unfold ixN; rw [if_pos h, if_pos (by omega)])).1
theorem mt_popV1 : MtR X "list.pop" (fun x xs H Q => (∃ y, xs = [y]) ∧ rMet C .pop x xs H Q) := by
  intro pins s σ' H x xs v us Q I rx rxs h
  obtain ⟨⟨y0, hx0⟩, S, F0, H0, F, σ, ρ, r0, rs, K, O, hr0, hrs, l0, ls, hv, g⟩ := h
  subst hx0
  cases rs with
  | nil => cases (show [y0] = [] from hrs)
  | cons r rs =>
    unfold vMet at hv
    split at hv <;> try (rename_i hm; cases hm; done)
    all_goals try (exact hv.elim)
    all_goals try (rename_i hm _; cases hm; done)
    · rename_i i ds r' _ hrr
      cases hrr
      obtain ⟨y, e, hy⟩ := rreps1 hrs
      cases e
      obtain ⟨vy, _⟩ := view_of (P := True) O hy (ls r (by simp))
      split at hv
      · rename_i k hk'
        rw [hk'] at vy
        cases vy.int
        obtain ⟨⟨ho, h0, h1⟩, d, hd, hk⟩ := hv
        obtain ⟨a, vs, rfl, e1, z, rv⟩ := own_at O ho hr0
        obtain ⟨O2, t2⟩ := O.setOwn ho e1 (rv.erase k.toNat)
        obtain ⟨y, hy, ry⟩ := rv.at hd
        exact mt_popAt pins s σ' H _ _ v us Q I rx rxs ⟨a, vs, k, k.toNat, y, rfl, rfl, z, by omega, by omega, seqIx h0 (List.getElem?_eq_some_iff.mp hy).1, hy, g (.val d) _ _ _ _ O2 t2 ry trivial hk⟩
      · exact hv.elim
theorem mt_extendV : MtR X "list.extend" (rMet C .extend) := by
  intro pins s σ' H x xs v us Q I rx rxs h
  obtain ⟨S, F0, H0, F, σ, ρ, r0, rs, K, O, hr0, hrs, l0, ls, hv, g⟩ := h
  unfold vMet at hv
  split at hv <;> try (rename_i hm; cases hm; done)
  all_goals try (exact hv.elim)
  all_goals try (rename_i hm _; cases hm; done)
  rename_i i ds r _
  split at hv
  · rename_i es hes
    obtain ⟨⟨ho, hz⟩, hk⟩ := hv
    obtain ⟨y, rfl, hy⟩ := rreps1 hrs
    obtain ⟨F1, O1, t1, r1, _⟩ := freeze (P := True) O hy (ls r (by simp))
    rw [hes] at r1
    unfold Rep at r1
    obtain ⟨b, us', rfl, qb, rb⟩ := r1
    obtain ⟨a, vs, rfl, e1, z, rv⟩ := own_at O1 ho (RRep.tr hr0 t1)
    obtain ⟨O2, t2⟩ := O1.setOwn ho e1 (rv.app rb)
    exact mt_extend pins s σ' H _ _ v us Q I rx rxs ⟨a, b, vs, us', rfl, rfl, z, O1.sub _ _ qb, by rw [rv.len, rb.len]; exact Nat.le_trans hz lim_le, g (.val .non) _ _ _ _ O2 (t1.trans t2) rrep_non trivial hk⟩
  · exact hv.elim
theorem mt_insertV : MtR X "list.insert" (rMet C .insert) := by
  intro pins s σ' H x xs v us Q I rx rxs h
  obtain ⟨S, F0, H0, F, σ, ρ, r0, rs, K, O, hr0, hrs, l0, ls, hv, g⟩ := h
  unfold vMet at hv
  split at hv <;> try (rename_i hm; cases hm; done)
  all_goals try (exact hv.elim)
  all_goals try (rename_i hm _; cases hm; done)
  rename_i i ds p r _
  split at hv
  · rename_i k hk'
    obtain ⟨⟨ho, ⟨h0, h1⟩, hz⟩, hk⟩ := hv
    obtain ⟨x, y, rfl, hx, hy⟩ := rreps2 hrs
    obtain ⟨vx, _⟩ := view_of (P := True) O hx (ls p (by simp))
    rw [hk'] at vx
    cases vx.int
    obtain ⟨F1, O1, t1, r1, _⟩ := freeze (P := True) O hy (ls r (by simp))
    obtain ⟨a, vs, rfl, e1, z, rv⟩ := own_at O1 ho (RRep.tr hr0 t1)
    have rn : Reps C S F1 (ds.take k.toNat ++ r.d :: ds.drop k.toNat) (vs.take k.toNat ++ [y] ++ vs.drop k.toNat) := by
      rw [List.append_assoc]
      exact (rv.take _).app (.cons r1 (rv.drop _))
    obtain ⟨O2, t2⟩ := O1.setOwn ho e1 rn
    have hl : ds.length < sizeLine := lim_lt hz
    have hb : (sizeLine : Nat) < 2 ^ 63 := line63
    exact mt_insert pins s σ' H _ _ v us Q I rx rxs ⟨a, vs, k, y, rfl, rfl, z, by rw [rv.len]; exact hl, h0, by omega, g (.val .non) _ _ _ _ O2 (t1.trans t2) rrep_non trivial hk⟩
  · exact hv.elim
theorem mt_indexV (hK : X.K = C.K) : MtR X "list.index" (rMet C .index) := by
  intro pins s σ' H x xs v us Q I rx rxs h
  obtain ⟨S, F0, H0, F, σ, ρ, r0, rs, K, O, hr0, hrs, l0, ls, hv, g⟩ := h
  unfold vMet at hv
  split at hv <;> try (rename_i hm; cases hm; done)
  all_goals try (exact hv.elim)
  all_goals try (rename_i hm _; cases hm; done)
  rename_i r _
  split at hv
  · rename_i ds hds
    obtain ⟨f1, f2, j, z, hj, hz, hno, hk⟩ := hv
    obtain ⟨y, rfl, hy⟩ := rreps1 hrs
    obtain ⟨vy, _⟩ := view_of (P := True) O hy (ls r (by simp))
    obtain ⟨vx, _⟩ := view_of (P := True) O hr0 l0
    rw [hds] at vx
    obtain ⟨a, vs, rfl, q, rv⟩ := vx.lst
    have ry := vy.flat f1
    obtain ⟨w, hw, rw1⟩ := rv.at hj
    have fz : z.flat = true := List.all_eq_true.mp f2 z (List.mem_of_getElem? hj)
    refine mt_index pins s σ' H _ _ v us Q I rx rxs ⟨a, vs, y, j, w, rfl, rfl, .of q, flat_rep f1 ry, flat_reps f2 rv, hw, by rw [eqF_rep rw1 ry fz f1]; exact hz, fun m z' hm hz' => ?_, g (.val (.int (j : Nat))) ρ _ _ _ O Tr.refl (rep_int (C := C) (S := S) (F := F)) trivial hk⟩
    obtain ⟨d, hd, rd⟩ := rv.at' hz'
    rw [eqF_rep rd ry (List.all_eq_true.mp f2 d (List.mem_of_getElem? hd)) f1]
    exact hno m d hm hd
  · exact hv.elim
end
end
end VL
set_option maxHeartbeats 4000000
/-! VLd: from a def's text to the language; contexts; what an expression's reading is. -/
namespace VL
open PySem PySem.Spec PyProof.Rows L2

/-! ### from the text -/
/-- what is known of the def's names: its slots, its scope, which names it stores, the module's defs by number, constants, the built-in names that the module leaves alone -/
structure CC where
  N : List Str
  sc : Scope
  fn : Str → Bool
  fns : List (Str × Nat)
  cons : List (Str × D)
  blt : List Str
  /-- within an except suite -/
  hot : Bool
  /-- fields of classes by name: (class, which) -/
  flds : List (Str × List (Nat × Nat))
  /-- classes by name, as isinstance and except ask: (class, answer) -/
  isx : List (Str × List (Nat × Bool))
  /-- own exception classes by name -/
  cons2 : List (Str × Nat × Nat)
  /-- the defs that are called within an except suite -/
  hfns : List (Str × Nat)
def okN (x : Str) : Bool := decide ((x == ("__debug__" : Str)) = false) && decide ((x == ("__classdict__" : Str)) = false)
def ixOf (x : Str) : List Str → Option Nat
  | [] => none
  | y :: ys => if decide (y = x) then some 0 else (ixOf x ys).map (· + 1)
theorem ixOf_ok {x : Str} : ∀ {N : List Str} {i : Nat}, ixOf x N = some i → N[i]? = some x
  | [], _, h => by cases h
  | y :: ys, i, h => by
    unfold ixOf at h
    by_cases e : y = x
    · rw [decide_eq_true e] at h
      cases h
      simp [e]
    · rw [decide_eq_false e] at h
      simp only [Bool.false_eq_true, if_false, Option.map_eq_some_iff] at h
      obtain ⟨j, hj, rfl⟩ := h
      simpa using ixOf_ok hj
def CC.kind (cc : CC) (x : Str) : Option NameKind := cc.sc.names.lookup x
def CC.see (cc : CC) (x : Str) : Bool := okN x && (match cc.kind x with
  | some .local => true
  | some .cell => true
  | some .free => true
  | _ => false)
def CC.put (cc : CC) (x : Str) : Bool := match cc.kind x with
  | some .local => true
  | some .cell => cc.fn x
  | _ => false
def CC.gl (cc : CC) (x : Str) : Bool := okN x && (match cc.kind x with
  | some .globalImplicit => true
  | _ => false)
def CC.free (cc : CC) (x : Str) : Bool := cc.gl x && decide (x ∈ cc.blt) && decide (x ≠ ("__name__" : Str))
def CC.blk (cc : CC) (scope : Scope) : CC := { cc with sc := relS scope cc.sc, fn := fun x => scope.names.lookup x == some .cell }
/-- within an except suite -/
def CC.heat (cc : CC) : CC := { cc with hot := true, fns := cc.hfns }
def isStar : Expr → Bool
  | .Starred _ _ => true
  | _ => false
def isSlice : Expr → Bool
  | .Slice _ _ _ _ => true
  | _ => false
def isSet : Expr → Bool
  | .Set _ _ _ => true
  | _ => false
def mapE (f : Expr → VE) : List Expr → VEs
  | [] => .nil
  | e :: es => .cons (f e) (mapE f es)
def andC (f : Expr → VC) : List Expr → VC
  | [] => .tv .bad
  | [a] => f a
  | a :: b :: r => .tand (f a) (andC f (b :: r))
def orC (f : Expr → VC) : List Expr → VC
  | [] => .tv .bad
  | [a] => f a
  | a :: b :: r => .tor (f a) (orC f (b :: r))
def andV (f : Expr → VE) : List Expr → VE
  | [] => .bad
  | [a] => f a
  | a :: b :: r => .andE (f a) (andV f (b :: r))
def orV (f : Expr → VE) : List Expr → VE
  | [] => .bad
  | [a] => f a
  | a :: b :: r => .orE (f a) (orV f (b :: r))
def mapG (f : Expr → VG) : List Expr → VGs
  | [] => .nil
  | e :: es => .cons (f e) (mapG f es)
def cG : Nat → CC → Expr → VG
  | 0, _, _ => .bad
  | n + 1, cc, .Name x _ => if cc.put x then (match ixOf x cc.N with
    | some i => .nm i
    | none => .bad) else .bad
  | n + 1, cc, .Tuple es _ _ => if !cc.hot && es.all (fun e => !isStar e) then .tp (mapG (cG n cc) es) else .bad
  | _ + 1, _, _ => .bad
def bNames : List (Str × B) := [("len", .len), ("abs", .abs), ("max", .max), ("min", .min), ("int", .int), ("sum", .sum), ("any", .any), ("all", .all), ("sorted", .sorted), ("list", .list), ("tuple", .tuple)]
def tNames : List (Str × String) := [("bool", "bool"), ("int", "int"), ("str", "str"), ("list", "list"), ("tuple", "tuple"), ("dict", "dict")]
def mNames : List (Str × M) := [("append", .append), ("pop", .pop), ("extend", .extend), ("insert", .insert), ("index", .index)]
/-- a comprehension's own names and their slots -/
def ownOf (N : List Str) (scope : Scope) : List (Str × Nat) := scope.names.filterMap fun y => match y.2 with
  | .local => (ixOf y.1 N).map fun i => (y.1, i)
  | .cell => (ixOf y.1 N).map fun i => (y.1, i)
  | _ => none
def noStars (es : List Expr) : Bool := es.all fun e => !isStar e
/-- range(..) of one or two parts -/
def isRange (cc : CC) : List Expr → Bool
  | [.Call (.Name f _) args [] _] => cc.free f && decide (f = ("range" : Str)) && noStars args && (decide (args.length = 1) || decide (args.length = 2))
  | _ => false
mutual
def cE : Nat → CC → Expr → VE
  | 0, _, _ => .bad
  | n + 1, cc, e => match e with
    | .Name x _ => if cc.see x then (match ixOf x cc.N with
        | some i => .var i
        | none => .bad)
      else if cc.gl x then (match cc.cons.lookup x with
        | some d => .cst d
        | none => .bad) else .bad
    | .Constant (.int i) _ _ => .cst (.int i)
    | .Constant (.bool b) _ _ => .cst (.bl b)
    | .Constant .none _ _ => .cst .non
    | .Constant (.str s) _ _ => .cst (.str s)
    | .BinOp a op b _ => .bin op (cE n cc a) (cE n cc b)
    | .UnaryOp .USub a _ => .neg (cE n cc a)
    | .BoolOp .And es _ => andV (cE n cc) es
    | .BoolOp .Or es _ => orV (cE n cc) es
    | .Compare a [op] [b] _ => if behindInMarks op b then .bad else .cmp op (cE n cc a) (cE n cc b)
    | .Compare a [op, op'] [b, c] _ => if behindInMarks op b || behindInMarks op' c then .bad else .chn op op' (cE n cc a) (cE n cc b) (cE n cc c)
    | .IfExp t a b _ => .ife (cC n cc t) (cE n cc a) (cE n cc b)
    | .Tuple es _ _ => if decide (es.length ≤ 1000) && noStars es then .tup (mapE (cE n cc) es) else .bad
    | .List es _ => if decide (es.length ≤ 1000) && noStars es then .lst (mapE (cE n cc) es) else .bad
    | .Subscript a (.Slice lo hi none _) _ => .sl (cE n cc a) (match lo with
        | some e => .some (cE n cc e)
        | none => .none) (match hi with
        | some e => .some (cE n cc e)
        | none => .none)
    | .Subscript a i _ => if isSlice i then .bad else .ix (cE n cc a) (cE n cc i)
    | .Call (.Name f _) args [] _ => if !cc.gl f || !noStars args || args.isEmpty then .bad else match cc.fns.lookup f with
        | some k => .call k (mapE (cE n cc) args)
        | none => if !cc.free f then .bad else if decide (f = ("list" : Str)) && (isRange cc args && !cc.hot) then (match args with
            | [.Call _ [a] _ _] => .lrg .none (cE n cc a)
            | [.Call _ [a, b] _ _] => .lrg (.some (cE n cc a)) (cE n cc b)
            | _ => .bad)
          else if decide (f = ("isinstance" : Str)) then (match args with
            | [a, .Name t _] => (match (if cc.free t then tNames.lookup t else none) with
              | some m => .isin (cE n cc a) (.bi m)
              | none => if cc.hot && cc.gl t then (match cc.isx.lookup t with
                | some tab => .isin (cE n cc a) (.own tab)
                | none => .bad) else .bad)
            | _ => .bad)
          else match bNames.lookup f with
            | some b => if !cc.hot || b.hotOk then .blt b (mapE (cE n cc) args) else .bad
            | none => .bad
    | .Call (.Attribute o m ap) args [] cp => if !noStars args || !(ap.endLine == cp.line) || decide (20 < args.length) then .bad else match o with
        | .Name _ _ => (match mNames.lookup m with
          | some k => .met k (cE n cc o) (mapE (cE n cc) args)
          | none => .bad)
        | _ => .bad
    | .Attribute o f _ => (match o with
      | .Name _ _ => if cc.hot then (match cc.flds.lookup f with
        | some tab => .fld (cE n cc o) tab
        | none => .bad) else .bad
      | _ => .bad)
    | .ListComp elt [⟨g, it, ifs, 0⟩] scope _ => if !cc.hot && (blkC cc.N cc.sc scope (ownOf cc.N scope) && !isSet it && (cG n (cc.blk scope) g).slots.all (fun i => ((ownOf cc.N scope).map (·.2)).contains i)) then
        .comp ((ownOf cc.N scope).map (·.2)) (cE n (cc.blk scope) elt) (cG n (cc.blk scope) g) (cI n cc g it) (match ifs with
          | [] => .tyes
          | [t] => cC n (cc.blk scope) t
          | _ => .tv .bad) else .bad
    | _ => .bad
def cC : Nat → CC → Expr → VC
  | 0, _, _ => .tv .bad
  | n + 1, cc, e => match e with
    | .UnaryOp .Not a _ => .tnot (cC n cc a)
    | .BoolOp .And es _ => andC (cC n cc) es
    | .BoolOp .Or es _ => orC (cC n cc) es
    | .IfExp _ _ _ _ => .tv .bad
    | .Compare a [op] [b] _ => .tv (if behindInMarks op b then .bad else .cmp op (cE n cc a) (cE n cc b))
    | .Compare a [op, op'] [b, c] _ => .tv (if behindInMarks op b || behindInMarks op' c then .bad else .chn op op' (cE n cc a) (cE n cc b) (cE n cc c))
    | .Compare _ _ _ _ => .tv .bad
    | e => .tv (cE n cc e)
def cI : Nat → CC → Expr → Expr → VI
  | 0, _, _, _ => .it .bad
  | n + 1, cc, g, e => match e with
    | .Call (.Name f _) args [] _ => if !cc.free f || !noStars args then .it (cE n cc e)
      else if decide (f = ("range" : Str)) then (match args with
        | [a] => .rng (.cons (cE n cc a) .nil)
        | [a, b] => .rng (.cons (cE n cc a) (.cons (cE n cc b) .nil))
        | _ => .it .bad)
      else if decide (f = ("enumerate" : Str)) then (match g, args with
        | .Tuple _ _ _, [a] => .enum (cE n cc a)
        | _, _ => .it .bad)
      else if decide (f = ("zip" : Str)) then (match g, args with
        | .Tuple _ _ _, [a, b] => .zip (cE n cc a) (cE n cc b)
        | _, _ => .it .bad)
      else .it (cE n cc e)
    | e => .it (cE n cc e)
end
def mapS (f : Stmt → VS) : List Stmt → VSs
  | [] => .nil
  | s :: ss => .cons (f s) (mapS f ss)
def cS : Nat → CC → Stmt → VS
  | 0, _, _ => .bad
  | n + 1, cc, s => match s with
    | .Pass _ => .pass
    | .Break _ => .brk
    | .Continue _ => .cnt
    | .Return none _ => .retN
    | .Return (some e) _ => .ret (cE n cc e)
    | .Expr e _ => (match e with
      | .Constant (.str _) _ _ => .pass
      | .Constant _ _ _ => .bad
      | .ListComp _ _ _ _ => .bad
      | .SetComp _ _ _ _ => .bad
      | .DictComp _ _ _ _ _ => .bad
      | e => .ex (cE n cc e))
    | .Assign [g] e _ => (match g, e with
      | .Tuple [.Name x _, .Name y _] _ _, .Tuple [a, b] _ _ => .bad
      | .Tuple _ _ _, .Tuple _ _ _ => .bad
      | .Tuple _ _ _, .ListComp _ _ _ _ => .bad
      | .Tuple gs k p, e => .asg (cG n cc (.Tuple gs k p)) (cE n cc e)
      | .Name x p, e => (match cG n cc (.Name x p) with
        | .nm i => .asg (.nm i) (cE n cc e)
        | _ => .bad)
      | _, _ => .bad)
    | .AugAssign (.Name x _) op e _ => if cc.see x && cc.put x then (match ixOf x cc.N with
        | some i => .aug i op (cE n cc e)
        | none => .bad) else .bad
    | .If t a b _ => .ifS (cC n cc t) (mapS (cS n cc) a) (mapS (cS n cc) b)
    | .For g it b [] _ => if isSet it || cc.hot then .bad else .forS (cG n cc g) (cI n cc g it) (mapS (cS n cc) b)
    | .Raise (some (.Call (.Name x _) (a :: as) [] _)) none _ => if cc.hot || !cc.gl x || !noStars (a :: as) then .bad else (match cc.cons2.lookup x with
      | some (c, m) => .rse c m (mapE (cE n cc) (a :: as))
      | none => .bad)
    | .Try body [.ExceptHandler (some (.Name x _)) (some y) (b :: su) _] [] [] _ => if cc.hot || !cc.gl x || !decide (cc.kind y = some .local) then .bad else (match ixOf y cc.N, cc.isx.lookup x with
      | some i, some tab => .tryA i tab (mapS (cS n cc) body) (mapS (cS n cc.heat) (b :: su))
      | _, _ => .bad)
    | .While t b [] _ => .whl (cC n cc t) (mapS (cS n cc) b)
    | _ => .bad
end VL
set_option maxHeartbeats 4000000
/-! VLe: the text's rules read as the language: expressions, tests, what a loop walks. -/
namespace VL
open PySem PySem.Spec PyProof.Rows L2

/-- what is wished of an exception, what is known of the handled one -/
structure WP where
  w : WX
  ok : SG → Prop
def WP.no (W : WP) : WP := ⟨fun _ _ _ _ => False, W.ok⟩
def Cold : SG → Prop := fun S => S.x = none
/-- the handled exception's object, class, dict -/
def HotA (C : CT) (a : Addr) (cls : Value) (d : Option Addr) : SG → Prop := fun S => ∃ c dx, S.x = some (a, c, dx) ∧ cls = .ref (C.cls c) ∧ d = some dx
/-- p's object is the handled exception -/
def HotP (C : CT) (p : Addr × Obj) : SG → Prop := fun S => ∃ c dx, S.x = some (p.1, c, dx) ∧ L2N.Zn (.ref (C.cls c)) (some dx) p.2 ∧ ∃ vs, p.2.data = .fields vs
/-- an exception's own dict and what it holds -/
def ExcAt (C : CT) (S : SG) (F H : Hp) (x : Exc) (cls : Value) (dx : Option Addr) : Prop :=
  cls = .ref (C.cls x.cls) ∧ ∃ d fl vs, dx = some d ∧ F d = some (.xd fl) ∧ FldsOf C x.cls fl vs ∧ Reps C S F x.fs vs
/-- what E takes is what W wishes -/
def XOK (C : CT) (S : SG) (F0 H0 : Hp) (W : WP) (E : VL.XK) : Prop := W.ok S ∧ ∀ x ρ F H σ cls dx, OK C S F0 H0 F H σ ρ → ExcAt C S F H x cls dx → E x ρ → W.w cls dx σ H
def Cont (C : CT) (S : SG) (F0 H0 : Hp) (σ : L2.St) (ρ : En) (F H : Hp) (K : EK) (Q : VK) : Prop :=
  ∀ r ρ' v F' H', OK C S F0 H0 F' H' σ ρ' → Tr S ρ ρ' σ F H F' H' → RRep C S H0 F' H' σ ρ' r v → RFresh F' ρ' r v → K r ρ' → Q v H'
/-- the reading of an expression -/
def tE (C : CT) (Γ : Nat → VSp) (W : WP) (e : VE) : TE := fun σ H Q => ∃ (S : SG) (F0 H0 F : Hp) (ρ : En) (K : EK) (E : VL.XK), OK C S F0 H0 F H σ ρ ∧ wE Γ e ρ K E ∧ XOK C S F0 H0 W E ∧ Cont C S F0 H0 σ ρ F H K Q
def tCo (C : CT) (Γ : Nat → VSp) (W : WP) (t : VC) : TT := fun σ H Q => ∃ (S : SG) (F0 H0 F : Hp) (ρ : En) (K : Bool → En → Prop) (E : VL.XK), OK C S F0 H0 F H σ ρ ∧ wC Γ t ρ K E ∧ XOK C S F0 H0 W E ∧
  ∀ b ρ' F' H', OK C S F0 H0 F' H' σ ρ' → Tr S ρ ρ' σ F H F' H' → K b ρ' → Q b H'
def tEs (C : CT) (Γ : Nat → VSp) (W : WP) (es : VEs) : TA := fun σ H Q => ∃ (S : SG) (F0 H0 F : Hp) (ρ : En) (K : List R → En → Prop) (E : VL.XK), OK C S F0 H0 F H σ ρ ∧ wEs Γ es ρ K E ∧ XOK C S F0 H0 W E ∧
  ∀ rs ρ' vs F' H', OK C S F0 H0 F' H' σ ρ' → Tr S ρ ρ' σ F H F' H' → RReps C S H0 F' H' σ ρ' rs vs → rs.length = es.len → K rs ρ' → Q vs H'
def tO (C : CT) (Γ : Nat → VSp) (W : WP) (e : VO) : TO := fun σ H Q => ∃ (S : SG) (F0 H0 F : Hp) (ρ : En) (K : Option Int → En → Prop) (E : VL.XK), OK C S F0 H0 F H σ ρ ∧ wO Γ e ρ K E ∧ XOK C S F0 H0 W E ∧
  ∀ o ρ' F' H', OK C S F0 H0 F' H' σ ρ' → Tr S ρ ρ' σ F H F' H' → K o ρ' → Q o H'

/-- a def's promise over the heap -/
structure Ext (S : SG) (F H F' H' : Hp) : Prop where
  f : Sub F F'
  sub : Sub F' H'
  fr : ∀ a o, a ≠ S.p → H a = some o → H' a = some o
  fn : ∀ a o, F' a = some o → F a = some o ∨ H a = none
  sto : Sto S F' H'
/-- what a def hands back -/
def Res (C : CT) (S : SG) (H F' H' : Hp) (o : Bool) (d : D) (v : V) : Prop :=
  if o = true then ∃ a, v = .ref a ∧ Own C S H F' H' d a else Rep C S F' d v
def lift (C : CT) (P : SG → Prop) (s : VSp) : Sp := fun vs H Q E => ∃ (S : SG) (F : Hp) (x : s.α), P S ∧ Sub F H ∧ Sto S F H ∧ Reps C S F (s.arg x) vs ∧ s.pre x ∧
  (∀ o d v F' H', s.post x o d → Ext S F H F' H' → Res C S H F' H' o d v → Q v H') ∧
  ∀ e cls dx F' H', s.exc x e → Ext S F H F' H' → ExcAt C S F' H' e cls dx → E cls dx H'
/-- a def called while an exception is handled -/
structure FnX (P : Program) (w : World) (K : PySem.W.Frag) (mg : Str → Option Value) (base : Heap) (CX : CXT) (k : Nat) (f : Addr) (fd : FuncData) (ps : List Str) (sp : Addr × Obj → Sp) : Prop where
  len : ∀ p vs H Q E, sp p vs H Q E → vs.length = ps.length
  run : ∀ (A : Around) (outer : List Env) (s : Shared) (H : Hp) (args : Args) (us : List Value) (vs : List V) (Q : VK) (E : L2.XK) (p : Addr × Obj), L2H.RoomH k A → L2H.Hot1 A p → L2H.PinOk outer H s p → Env0 P w K mg base A outer s H → BindsTo s fd args (ps.zip us) → Vals vs us → sp p vs H Q E →
    codeAny (model P w) A (.call (.ref f) args) (CR CX outer P w H s Q E) s
def FnC (C : CT) (Γ : Nat → VSp) (X : Cx) (k lv : Nat) (f : Addr) (fd : FuncData) (ps : List Str) : Prop := FnOk X.prog X.w X.K X.mg X.base (L2N.CX X.prog X.w) lv f fd ps (lift C Cold (Γ k)) ∧ Room lv X.A
def FnW (C : CT) (Γ : Nat → VSp) (X : Cx) (k lv : Nat) (f : Addr) (fd : FuncData) (ps : List Str) : Prop := FnX X.prog X.w X.K X.mg X.base (L2N.CX X.prog X.w) lv f fd ps (fun p => lift C (HotP C p) (Γ k)) ∧ L2H.RoomH lv X.A
def FnAt (C : CT) (Γ : Nat → VSp) (X : Cx) (hot : Bool) (x : Str) (k : Nat) : Prop := ∃ lv f fd ps, (hot = false → FnC C Γ X k lv f fd ps) ∧ (hot = true → FnW C Γ X k lv f fd ps) ∧ X.mg x = some (.ref f) ∧ PySem.W.keepIn X.K (.ref f) = true ∧ Binds X.K fd ps []
def ConAt (C : CT) (X : Cx) (x : Str) (d : D) : Prop := ∃ v u, X.mg x = some u ∧ RelV v u ∧ ∀ S F, Rep C S F d v
/-- what a class's name means, and how isinstance and except answer of the own exceptions -/
def IsAt (C : CT) (X : Cx) (t : Str) (tab : List (Nat × Bool)) : Prop := ∃ (v : V) (cv : Value), (∀ u, RelV v u ↔ u = cv) ∧ (X.mg t = some cv ∨ (X.mg t = none ∧ bootBuiltins t = some cv ∧ t ≠ ("__name__" : Str))) ∧
  ∀ c b, tab.lookup c = some b → ExcC X.K (C.cls c) ∧ PySem.W.kitOne X.K (.ref (C.cls c)) cv = some b ∧ PySem.W.exmOne X.K (.ref (C.cls c)) cv = some b
structure Ctx (C : CT) (Γ : Nat → VSp) (X : Cx) (cc : CC) (W : WP) : Prop where
  hN : X.N = cc.N
  sc : X.env.scope = cc.sc
  fn : X.fn = cc.fn
  nd : X.N.Nodup
  K : X.K = C.K
  cold : cc.hot = false → X.calm = true ∧ W.ok = Cold
  hot : cc.hot = true → ∃ p cls d, p ∈ X.pn ∧ L2N.Zn cls d p.2 ∧ (∃ vs, p.2.data = .fields vs) ∧ X.A.handled = some (.ref p.1) ∧ W.ok = HotA C p.1 cls d
  fl : ∀ f t c i, cc.flds.lookup f = some t → t.lookup c = some i → (C.fld c)[i]? = some f ∧ XfC X.K (C.cls c) ∧ PySem.W.findIn X.K (.ref (C.cls c)) f = some none
  ix : ∀ t tab, cc.isx.lookup t = some tab → IsAt C X t tab
  un : X.A.units + 64 < cLine
  tk : L2N.Takes X W.w
  po : PassesOwn (model X.prog X.w) X.A X.env X.xe
  fns : ∀ x k, cc.fns.lookup x = some k → FnAt C Γ X cc.hot x k
  cons : ∀ x d, cc.cons.lookup x = some d → ConAt C X x d
  blt : ∀ x ∈ cc.blt, X.mg x = none

section
variable {C : CT} {Γ : Nat → VSp} {X : Cx} {cc : CC} {W : WP}
theorem rrep_bl {S : SG} {H0 F H : Hp} {σ : L2.St} {ρ : En} {b : Bool} : RRep C S H0 F H σ ρ (.val (.bl b)) (.bl b) := rep_bl (C := C) (S := S) (F := F)
theorem pe_imp {e : Expr} {t t' : TE} (h : PE X e t) (i : ∀ σ H Q, t' σ H Q → t σ H Q) : PE X e t' := ⟨fun pins s σ H Q I q => h.run pins s σ H Q I (i σ H Q q)⟩
theorem pt_imp {e : Expr} {t t' : TT} (h : PT X e t) (i : ∀ σ H Q, t' σ H Q → t σ H Q) : PT X e t' := ⟨fun pins s σ H Q I q => h.run pins s σ H Q I (i σ H Q q)⟩
theorem pw_imp {e : Expr} {t t' : TT} (h : PW X e t) (i : ∀ σ H Q, t' σ H Q → t σ H Q) : PW X e t' := ⟨fun wh pins s σ H Q I q => h.run wh pins s σ H Q I (i σ H Q q)⟩
theorem pa_imp {es : List Expr} {t t' : TA} (h : PA X es t) (i : ∀ σ H Q, t' σ H Q → t σ H Q) : PA X es t' := ⟨fun pos pins s σ H Q I q => h.run pos pins s σ H Q I (i σ H Q q)⟩
theorem po_imp {e : Option Expr} {t t' : TO} (h : PO X e t) (i : ∀ σ H Q, t' σ H Q → t σ H Q) : PO X e t' := ⟨fun pins s σ H Q I q => h.run pins s σ H Q I (i σ H Q q)⟩
theorem pe_bad {e : Expr} : PE X e (tE C Γ W .bad) := ⟨fun pins s σ H Q I q => by
  obtain ⟨_, _, _, _, _, _, _, _, z, _⟩ := q
  unfold wE at z
  exact z.elim⟩
theorem pt_bad {e : Expr} : PT X e (tCo C Γ W (.tv .bad)) := ⟨fun pins s σ H Q I q => by
  obtain ⟨_, _, _, _, _, _, _, _, z, _⟩ := q
  unfold wC wE at z
  exact z.elim⟩

/-! ### what the text's form gives -/
theorem star_cons {e : Expr} {es : List Expr} {env : PySem.Env} (h : isStar e = false) : starEach (e :: es) env = (false, eval e env) :: starEach es env := by
  cases e <;> first | rfl | cases h
theorem star_plain {env : PySem.Env} : ∀ {es : List Expr}, noStars es = true → (starEach es env).any (·.1) = false
  | [], _ => rfl
  | e :: es, h => by
    unfold noStars at h
    rw [List.all_cons, Bool.and_eq_true] at h
    rw [star_cons (by simpa using h.1), List.any_cons, star_plain (es := es) h.2] <;> rfl
theorem back_any {pos : Pos} (l : List (Bool × Sem Value)) : (backTo pos l).any (·.1) = l.any (·.1) := by
  unfold backTo
  rw [List.any_map]
  congr 1
theorem slice_plain {b : Expr} (h : isSlice b = false) : PlainIx b := fun o i => by
  cases b <;> first | rfl | cases h
theorem set_plain {e : Expr} {env : PySem.Env} (h : isSet e = false) : ∀ x, foldedSetIterable e env x = pure x := fun x => by
  cases e <;> first | rfl | cases h
theorem okN_ok {x : Str} (h : okN x = true) : (x == ("__debug__" : Str)) = false ∧ (x == ("__classdict__" : Str)) = false := by
  unfold okN at h
  rw [Bool.and_eq_true] at h
  exact ⟨of_decide_eq_true h.1, of_decide_eq_true h.2⟩
theorem Ctx.vis (cx : Ctx C Γ X cc W) {x : Str} (h : cc.see x = true) : Vis X.env.scope x := by
  unfold CC.see CC.kind at h
  rw [Bool.and_eq_true] at h
  rw [cx.sc]
  have h2 := h.2
  split at h2
  · exact .inl ‹_›
  · exact .inr (.inl ‹_›)
  · exact .inr (.inr ‹_›)
  · cases h2
theorem Ctx.slot (cx : Ctx C Γ X cc W) {x : Str} {i : Nat} (h : ixOf x cc.N = some i) : X.N[i]? = some x := by
  rw [cx.hN]
  exact ixOf_ok h
theorem Ctx.glob (cx : Ctx C Γ X cc W) {x : Str} (h : cc.gl x = true) : Gl X x := by
  unfold CC.gl CC.kind at h
  rw [Bool.and_eq_true] at h
  have h2 := h.2
  split at h2
  · show X.env.kindOf x = some .globalImplicit
    unfold Env.kindOf
    rw [cx.sc]
    assumption
  · cases h2
theorem CC.gl_okN {x : Str} (h : cc.gl x = true) : okN x = true := by
  unfold CC.gl at h
  rw [Bool.and_eq_true] at h
  exact h.1
theorem CC.free_ok {x : Str} (h : cc.free x = true) : cc.gl x = true ∧ x ∈ cc.blt ∧ x ≠ ("__name__" : Str) := by
  unfold CC.free at h
  rw [Bool.and_eq_true, Bool.and_eq_true] at h
  exact ⟨h.1.1, of_decide_eq_true h.1.2, of_decide_eq_true h.2⟩

/-! ### expressions -/
theorem s_var (cx : Ctx C Γ X cc W) {x : Str} {i : Nat} {pos : Pos} (h : cc.see x = true) (hi : ixOf x cc.N = some i) : PE X (.Name x pos) (tE C Γ W (.var i)) := by
  have ho : okN x = true := by
    unfold CC.see at h
    rw [Bool.and_eq_true] at h
    exact h.1
  refine pe_imp (pe_var (cx.slot hi) (cx.vis h) (okN_ok ho).1 (okN_ok ho).2) ?_
  rintro σ H Q ⟨S, F0, H0, F, ρ, K, E, O, hw, hx, g⟩
  unfold wE look at hw
  split at hw
  · rename_i d hd
    obtain ⟨v, e, r⟩ := O.val i d hd
    exact ⟨v, e, g (.val d) ρ v F H O Tr.refl r trivial hw⟩
  · rename_i d hd
    obtain ⟨a, e, r⟩ := O.own i d hd
    exact ⟨.ref a, e, g (.var i d) ρ (.ref a) F H O Tr.refl e hd hw⟩
  · exact hw.elim
theorem s_cst {e : Expr} {d : D} {v : V} (h : PE X e (L2.tC v)) (r : ∀ S F, Rep C S F d v) : PE X e (tE C Γ W (.cst d)) := by
  refine pe_imp h ?_
  rintro σ H Q ⟨S, F0, H0, F, ρ, K, E, O, hw, hx, g⟩
  unfold wE at hw
  exact g (.val d) ρ v F H O Tr.refl (r S F) trivial hw
theorem s_con (cx : Ctx C Γ X cc W) {x : Str} {d : D} {pos : Pos} (h : cc.gl x = true) (hd : cc.cons.lookup x = some d) : PE X (.Name x pos) (tE C Γ W (.cst d)) := by
  obtain ⟨v, u, hm, r, k⟩ := cx.cons x d hd
  exact s_cst (pe_glob (cx.glob h) hm r (okN_ok (CC.gl_okN h)).1) k
theorem s_bin (cx : Ctx C Γ X cc W) {a b : Expr} {op : Operator} {pos : Pos} {va vb : VE} (ha : PE X a (tE C Γ W va)) (hb : PE X b (tE C Γ W vb)) : PE X (.BinOp a op b pos) (tE C Γ W (.bin op va vb)) := by
  refine pe_imp (pe_op (op_bin cx.K op) ha hb) ?_
  rintro σ H Q ⟨S, F0, H0, F, ρ, K, E, O, hw, hx, g⟩
  unfold wE at hw
  refine ⟨S, F0, H0, F, ρ, _, E, O, hw, hx, fun r1 ρ1 v1 F1 H1 O1 t1 q1 f1 hw1 => ⟨S, F0, H0, F1, ρ1, _, E, O1, hw1, hx, fun r2 ρ2 v2 F2 H2 O2 t2 q2 f2 hk => ?_⟩⟩
  obtain ⟨w1, hk⟩ := view_of O2 (q1.tr t2) hk
  obtain ⟨w2, _⟩ := view_of O2 q2 f2.lv
  exact ⟨S, F0, H0, F2, σ, ρ2, _, _, _, O2, w1, w2, hk, fun r v F' H' O' t' q' f' hk' => g r ρ2 v F' H' O' ((t1.trans t2).trans t') q' f' hk'⟩
theorem vNeg_mono {d : D} {K K' : D → Prop} (h : ∀ b, K b → K' b) (t : vNeg d K) : vNeg d K' := by
  unfold vNeg at t ⊢
  split at t
  · exact h _ t
  · exact t
theorem s_neg (cx : Ctx C Γ X cc W) {a : Expr} {pos : Pos} {va : VE} (ha : PE X a (tE C Γ W va)) : PE X (.UnaryOp .USub a pos) (tE C Γ W (.neg va)) := by
  refine pe_imp (pe_un (un_negV (C := C)) ha) ?_
  rintro σ H Q ⟨S, F0, H0, F, ρ, K, E, O, hw, hx, g⟩
  unfold wE at hw
  refine ⟨S, F0, H0, F, ρ, _, E, O, hw, hx, fun r1 ρ1 v1 F1 H1 O1 t1 q1 f1 hw1 => ?_⟩
  obtain ⟨w1, _⟩ := view_of O1 q1 f1.lv
  exact ⟨S, F1, r1.d, w1, vNeg_mono (fun d hk v r => g (.val d) ρ1 v F1 H1 O1 t1 r trivial hk) hw1⟩
theorem truth_mono {d : D} {K K' : Bool → Prop} (h : ∀ b, K b → K' b) (t : truth d K) : truth d K' := by
  unfold truth at t ⊢
  split at t <;> first | exact h _ t | exact ⟨t.1, h _ t.2⟩ | exact t
theorem vCmp_mono {op : CmpOp} {x y : D} {K K' : Bool → Prop} (h : ∀ b, K b → K' b) (t : vCmp op x y K) : vCmp op x y K' := by
  have e1 : ∀ {K K' : Bool → Prop}, (∀ b, K b → K' b) → vEq x y K → vEq x y K' := fun h t => by
    unfold vEq at t ⊢
    split at t <;> first | exact h _ t | (obtain ⟨p, q, a, b, c, d, t⟩ := t; exact ⟨p, q, a, b, c, d, h _ t⟩)
  have e2 : ∀ {K K' : Bool → Prop}, (∀ b, K b → K' b) → vIn x y K → vIn x y K' := fun h t => by
    unfold vIn at t ⊢
    split at t <;> first | exact h _ t | exact ⟨t.1, t.2.1, h _ t.2.2⟩ | exact t
  unfold vCmp at t ⊢
  split at t
  · exact e1 h t
  · exact e1 (fun b => h _) t
  · split at t <;> first | exact h _ t | exact t
  · split at t <;> first | exact h _ t | exact t
  · split at t <;> first | exact h _ t | exact t
  · split at t <;> first | exact h _ t | exact t
  · split at t
    · split at t <;> exact h _ t
    · exact t
  · split at t
    · split at t <;> exact h _ t
    · exact t
  · exact e2 h t
  · exact e2 (fun b => h _) t
theorem s_notE (cx : Ctx C Γ X cc W) {a : Expr} {pos : Pos} {va : VE} (ha : PE X a (tE C Γ W va)) : PE X (.UnaryOp .Not a pos) (tE C Γ W (.notE va)) := by
  refine pe_imp (pe_notT ha) ?_
  rintro σ H Q ⟨S, F0, H0, F, ρ, K, E, O, hw, hx, g⟩
  unfold wE at hw
  refine ⟨S, F0, H0, F, ρ, _, E, O, hw, hx, fun r1 ρ1 v1 F1 H1 O1 t1 q1 f1 hw1 => ?_⟩
  obtain ⟨w1, _⟩ := view_of O1 q1 f1.lv
  exact tru_of cx.K O1.sub (Q := fun b H => Q (.bl (!b)) H) w1 (truth_mono (fun b hb => g _ ρ1 _ F1 H1 O1 t1 rrep_bl trivial hb) hw1)
theorem s_cmp (cx : Ctx C Γ X cc W) {a b : Expr} {op : CmpOp} {pos : Pos} {va vb : VE} (hm : behindInMarks op b = false) (ha : PE X a (tE C Γ W va)) (hb : PE X b (tE C Γ W vb)) : PE X (.Compare a [op] [b] pos) (tE C Γ W (.cmp op va vb)) := by
  refine pe_imp (pe_cmpR (op_cmpV cx.K cx.un op) ha hb hm) ?_
  rintro σ H Q ⟨S, F0, H0, F, ρ, K, E, O, hw, hx, g⟩
  unfold wE at hw
  refine ⟨S, F0, H0, F, ρ, _, E, O, hw, hx, fun r1 ρ1 v1 F1 H1 O1 t1 q1 f1 hw1 => ⟨S, F0, H0, F1, ρ1, _, E, O1, hw1, hx, fun r2 ρ2 v2 F2 H2 O2 t2 q2 f2 hk => ?_⟩⟩
  obtain ⟨w1, hk⟩ := view_of O2 (q1.tr t2) hk
  obtain ⟨w2, _⟩ := view_of O2 q2 f2.lv
  exact ⟨S, F2, _, _, O2.sub, w1, w2, vCmp_mono (fun b hb => g _ ρ2 _ F2 H2 O2 (t1.trans t2) rrep_bl trivial hb) hk⟩
theorem s_cmpT (cx : Ctx C Γ X cc W) {a b : Expr} {op : CmpOp} {pos : Pos} {va vb : VE} (hm : behindInMarks op b = false) (ha : PE X a (tE C Γ W va)) (hb : PE X b (tE C Γ W vb)) : PT X (.Compare a [op] [b] pos) (tCo C Γ W (.tv (.cmp op va vb))) := by
  refine pt_imp (pt_cmpR (op_cmpV cx.K cx.un op) ha hb hm) ?_
  rintro σ H Q ⟨S, F0, H0, F, ρ, K, E, O, hw, hx, g⟩
  unfold wC wE at hw
  refine ⟨S, F0, H0, F, ρ, _, E, O, hw, hx, fun r1 ρ1 v1 F1 H1 O1 t1 q1 f1 hw1 => ⟨S, F0, H0, F1, ρ1, _, E, O1, hw1, hx, fun r2 ρ2 v2 F2 H2 O2 t2 q2 f2 hk => ?_⟩⟩
  obtain ⟨w1, hk⟩ := view_of O2 (q1.tr t2) hk
  obtain ⟨w2, _⟩ := view_of O2 q2 f2.lv
  exact ⟨S, F2, _, _, O2.sub, w1, w2, vCmp_mono (fun b hb => ⟨b, rfl, g b ρ2 F2 H2 O2 (t1.trans t2) hb⟩) hk⟩
theorem chain_core {C : CT} {Γ : Nat → VSp} {W : WP} {op op' : CmpOp} {va vb vc : VE} {σ : L2.St} {H : Hp} {S : SG} {F0 H0 F : Hp} {ρ : En} {K : Bool → En → Prop} {E : VL.XK} {Q : VK} (O : OK C S F0 H0 F H σ ρ) (hx : XOK C S F0 H0 W E)
    (hw : wE Γ va ρ (fun x ρ1 => wE Γ vb ρ1 (fun y ρ2 => x.lv ρ2 (vCmp op x.d y.d fun k => (k = true → wE Γ vc ρ2 (fun z ρ3 => y.lv ρ3 (vCmp op' y.d z.d fun k' => K k' ρ3)) E) ∧ (k = false → K false ρ2))) E) E)
    (g : ∀ b ρ' F' H', OK C S F0 H0 F' H' σ ρ' → Tr S ρ ρ' σ F H F' H' → K b ρ' → Q (.bl b) H') : tChain (rCmp C op) (rCmp C op') (tE C Γ W va) (tE C Γ W vb) (tE C Γ W vc) σ H Q := by
  refine ⟨S, F0, H0, F, ρ, _, E, O, hw, hx, fun r1 ρ1 v1 F1 H1 O1 t1 q1 f1 hw1 => ⟨S, F0, H0, F1, ρ1, _, E, O1, hw1, hx, fun r2 ρ2 v2 F2 H2 O2 t2 q2 f2 hk => ?_⟩⟩
  obtain ⟨w1, hk⟩ := view_of O2 (q1.tr t2) hk
  obtain ⟨w2, _⟩ := view_of O2 q2 f2.lv
  refine ⟨S, F2, _, _, O2.sub, w1, w2, vCmp_mono (fun b hb => ⟨b, rfl, ?_⟩) hk⟩
  cases b with
  | false =>
    rw [if_neg Bool.false_ne_true]
    exact g false ρ2 F2 H2 O2 (t1.trans t2) (hb.2 rfl)
  | true =>
    rw [if_pos rfl]
    refine ⟨S, F0, H0, F2, ρ2, _, E, O2, hb.1 rfl, hx, fun r3 ρ3 v3 F3 H3 O3 t3 q3 f3 hk3 => ?_⟩
    obtain ⟨w2', hk3⟩ := view_of O3 (q2.tr t3) hk3
    obtain ⟨w3, _⟩ := view_of O3 q3 f3.lv
    exact ⟨S, F3, _, _, O3.sub, w2', w3, vCmp_mono (fun b hb => g b ρ3 F3 H3 O3 ((t1.trans t2).trans t3) hb) hk3⟩
theorem marks2 {op op' : CmpOp} {b c : Expr} (h1 : behindInMarks op b = false) (h2 : behindInMarks op' c = false) : lastMarks [op, op'] [b, c] = false := h2
theorem s_chn (cx : Ctx C Γ X cc W) {a b c : Expr} {op op' : CmpOp} {pos : Pos} {va vb vc : VE} (h1 : behindInMarks op b = false) (h2 : behindInMarks op' c = false) (ha : PE X a (tE C Γ W va)) (hb : PE X b (tE C Γ W vb)) (hc : PE X c (tE C Γ W vc)) :
    PE X (.Compare a [op, op'] [b, c] pos) (tE C Γ W (.chn op op' va vb vc)) := by
  refine pe_imp (pe_chain (op_cmpV cx.K cx.un op) (op_cmpV cx.K cx.un op') ha hb hc (marks2 h1 h2)) ?_
  rintro σ H Q ⟨S, F0, H0, F, ρ, K, E, O, hw, hx, g⟩
  unfold wE at hw
  exact chain_core (K := fun k ρ => K (.val (.bl k)) ρ) O hx hw fun b ρ' F' H' O' t' hk => g _ ρ' _ F' H' O' t' rrep_bl trivial hk
theorem s_chnT (cx : Ctx C Γ X cc W) {a b c : Expr} {op op' : CmpOp} {pos : Pos} {va vb vc : VE} (h1 : behindInMarks op b = false) (h2 : behindInMarks op' c = false) (ha : PE X a (tE C Γ W va)) (hb : PE X b (tE C Γ W vb)) (hc : PE X c (tE C Γ W vc)) :
    PT X (.Compare a [op, op'] [b, c] pos) (tCo C Γ W (.tv (.chn op op' va vb vc))) := by
  refine pt_imp (pt_chain (op_cmpV cx.K cx.un op) (op_cmpV cx.K cx.un op') ha hb hc (marks2 h1 h2)) ?_
  rintro σ H Q ⟨S, F0, H0, F, ρ, K, E, O, hw, hx, g⟩
  unfold wC wE at hw
  exact chain_core (K := K) O hx hw fun b ρ' F' H' O' t' hk => ⟨b, rfl, g b ρ' F' H' O' t' hk⟩
theorem s_tv (cx : Ctx C Γ X cc W) {a : Expr} {va : VE} (ha : PE X a (tE C Γ W va)) (he : ∀ whole, isTrue a X.env whole = (do let v ← whole; standAt a.pos; holding [v] (truthy v))) : PT X a (tCo C Γ W (.tv va)) := by
  refine pt_imp (pt_truth ha he) ?_
  rintro σ H Q ⟨S, F0, H0, F, ρ, K, E, O, hw, hx, g⟩
  unfold wC at hw
  refine ⟨S, F0, H0, F, ρ, _, E, O, hw, hx, fun r1 ρ1 v1 F1 H1 O1 t1 q1 f1 hw1 => ?_⟩
  obtain ⟨w1, _⟩ := view_of O1 q1 f1.lv
  exact tru_of cx.K O1.sub w1 (truth_mono (fun b hb => g b ρ1 F1 H1 O1 t1 hb) hw1)
theorem s_tnot {a : Expr} {pos : Pos} {t : VC} (ha : PT X a (tCo C Γ W t)) : PT X (.UnaryOp .Not a pos) (tCo C Γ W (.tnot t)) := by
  refine pt_imp (pt_not ha) ?_
  rintro σ H Q ⟨S, F0, H0, F, ρ, K, E, O, hw, hx, g⟩
  unfold wC at hw
  exact ⟨S, F0, H0, F, ρ, _, E, O, hw, hx, fun b ρ' F' H' O' t' hk => g (!b) ρ' F' H' O' t' hk⟩
theorem s_tands {f : Expr → VC} (h : ∀ e, PT X e (tCo C Γ W (f e))) {pos : Pos} : ∀ es : List Expr, PW X (.BoolOp .And es pos) (tCo C Γ W (andC f es))
  | [] => ⟨fun wh pins s σ H Q I q => by
    obtain ⟨_, _, _, _, _, _, _, _, z, _⟩ := q
    unfold andC wC wE at z
    exact z.elim⟩
  | [a] => pw_and1 (h a)
  | a :: b :: r => by
    refine pw_imp (pw_and (h a) (s_tands h (b :: r))) ?_
    rintro σ H Q ⟨S, F0, H0, F, ρ, K, E, O, hw, hx, g⟩
    unfold andC wC at hw
    refine ⟨S, F0, H0, F, ρ, _, E, O, hw, hx, fun c ρ' F' H' O' t' hk => ?_⟩
    cases c with
    | true => rw [if_pos rfl]; exact ⟨S, F0, H0, F', ρ', _, E, O', hk.1 rfl, hx, fun b ρ2 F2 H2 O2 t2 hk2 => g b ρ2 F2 H2 O2 (t'.trans t2) hk2⟩
    | false => rw [if_neg Bool.false_ne_true]; exact g false ρ' F' H' O' t' (hk.2 rfl)
theorem s_tors {f : Expr → VC} (h : ∀ e, PT X e (tCo C Γ W (f e))) {pos : Pos} : ∀ es : List Expr, PW X (.BoolOp .Or es pos) (tCo C Γ W (orC f es))
  | [] => ⟨fun wh pins s σ H Q I q => by
    obtain ⟨_, _, _, _, _, _, _, _, z, _⟩ := q
    unfold orC wC wE at z
    exact z.elim⟩
  | [a] => pw_or1 (h a)
  | a :: b :: r => by
    refine pw_imp (pw_or (h a) (s_tors h (b :: r))) ?_
    rintro σ H Q ⟨S, F0, H0, F, ρ, K, E, O, hw, hx, g⟩
    unfold orC wC at hw
    refine ⟨S, F0, H0, F, ρ, _, E, O, hw, hx, fun c ρ' F' H' O' t' hk => ?_⟩
    cases c with
    | true => rw [if_pos rfl]; exact g true ρ' F' H' O' t' (hk.1 rfl)
    | false => rw [if_neg Bool.false_ne_true]; exact ⟨S, F0, H0, F', ρ', _, E, O', hk.2 rfl, hx, fun b ρ2 F2 H2 O2 t2 hk2 => g b ρ2 F2 H2 O2 (t'.trans t2) hk2⟩
theorem View.asBl {F H : Hp} {S : SG} {d : D} {v : V} {c : Bool} (e : d = .bl c) (h : View C S F H d v) : v = .bl c := by
  subst e
  exact h.bl
theorem s_ands {f : Expr → VE} (h : ∀ e, PE X e (tE C Γ W (f e))) {pos : Pos} : ∀ es : List Expr, PE X (.BoolOp .And es pos) (tE C Γ W (andV f es))
  | [] => pe_bad
  | [a] => pe_one (h a)
  | a :: b :: r => by
    refine pe_imp (pe_and (h a) (s_ands h (b :: r))) ?_
    rintro σ H Q ⟨S, F0, H0, F, ρ, K, E, O, hw, hx, g⟩
    unfold andV wE at hw
    refine ⟨S, F0, H0, F, ρ, _, E, O, hw, hx, fun r1 ρ1 v1 F1 H1 O1 t1 q1 f1 hw1 => ?_⟩
    obtain ⟨c, e, h1, h2⟩ := hw1
    obtain ⟨w1, _⟩ := view_of O1 q1 f1.lv
    refine ⟨c, w1.asBl e, ?_⟩
    cases c with
    | true => rw [if_pos rfl]; exact ⟨S, F0, H0, F1, ρ1, _, E, O1, h1 rfl, hx, fun r2 ρ2 v2 F2 H2 O2 t2 q2 f2 hk2 => g r2 ρ2 v2 F2 H2 O2 (t1.trans t2) q2 f2 hk2⟩
    | false => rw [if_neg Bool.false_ne_true]; exact g _ ρ1 _ F1 H1 O1 t1 rrep_bl trivial (h2 rfl)
theorem s_ors {f : Expr → VE} (h : ∀ e, PE X e (tE C Γ W (f e))) {pos : Pos} : ∀ es : List Expr, PE X (.BoolOp .Or es pos) (tE C Γ W (orV f es))
  | [] => pe_bad
  | [a] => pe_one (h a)
  | a :: b :: r => by
    refine pe_imp (pe_or (h a) (s_ors h (b :: r))) ?_
    rintro σ H Q ⟨S, F0, H0, F, ρ, K, E, O, hw, hx, g⟩
    unfold orV wE at hw
    refine ⟨S, F0, H0, F, ρ, _, E, O, hw, hx, fun r1 ρ1 v1 F1 H1 O1 t1 q1 f1 hw1 => ?_⟩
    obtain ⟨c, e, h1, h2⟩ := hw1
    obtain ⟨w1, _⟩ := view_of O1 q1 f1.lv
    refine ⟨c, w1.asBl e, ?_⟩
    cases c with
    | true => rw [if_pos rfl]; exact g _ ρ1 _ F1 H1 O1 t1 rrep_bl trivial (h1 rfl)
    | false => rw [if_neg Bool.false_ne_true]; exact ⟨S, F0, H0, F1, ρ1, _, E, O1, h2 rfl, hx, fun r2 ρ2 v2 F2 H2 O2 t2 q2 f2 hk2 => g r2 ρ2 v2 F2 H2 O2 (t1.trans t2) q2 f2 hk2⟩
theorem s_ife {t a b : Expr} {pos : Pos} {vt : VC} {va vb : VE} (ht : PT X t (tCo C Γ W vt)) (ha : PE X a (tE C Γ W va)) (hb : PE X b (tE C Γ W vb)) : PE X (.IfExp t a b pos) (tE C Γ W (.ife vt va vb)) := by
  refine pe_imp (pe_ifExp ht ha hb) ?_
  rintro σ H Q ⟨S, F0, H0, F, ρ, K, E, O, hw, hx, g⟩
  unfold wE at hw
  refine ⟨S, F0, H0, F, ρ, _, E, O, hw, hx, fun c ρ' F' H' O' t' hk => ?_⟩
  cases c with
  | true => rw [if_pos rfl]; exact ⟨S, F0, H0, F', ρ', _, E, O', hk.1 rfl, hx, fun r2 ρ2 v2 F2 H2 O2 t2 q2 f2 hk2 => g r2 ρ2 v2 F2 H2 O2 (t'.trans t2) q2 f2 hk2⟩
  | false => rw [if_neg Bool.false_ne_true]; exact ⟨S, F0, H0, F', ρ', _, E, O', hk.2 rfl, hx, fun r2 ρ2 v2 F2 H2 O2 t2 q2 f2 hk2 => g r2 ρ2 v2 F2 H2 O2 (t'.trans t2) q2 f2 hk2⟩
theorem s_args {f : Expr → VE} (h : ∀ e, PE X e (tE C Γ W (f e))) : ∀ {es : List Expr}, noStars es = true → PA X es (tEs C Γ W (mapE f es))
  | [], _ => by
    refine pa_imp pa_nil ?_
    rintro σ H Q ⟨S, F0, H0, F, ρ, K, E, O, hw, hx, g⟩
    unfold mapE wEs at hw
    exact g [] ρ [] F H O Tr.refl rfl rfl hw
  | e :: es, hs => by
    unfold noStars at hs
    rw [List.all_cons, Bool.and_eq_true] at hs
    refine pa_imp (pa_cons (h e) (s_args h (es := es) hs.2) (star_cons (by simpa using hs.1))) ?_
    rintro σ H Q ⟨S, F0, H0, F, ρ, K, E, O, hw, hx, g⟩
    unfold mapE wEs at hw
    exact ⟨S, F0, H0, F, ρ, _, E, O, hw, hx, fun r1 ρ1 v1 F1 H1 O1 t1 q1 f1 hw1 => ⟨S, F0, H0, F1, ρ1, _, E, O1, hw1, hx, fun rs ρ2 vs F2 H2 O2 t2 q2 l2 hk2 =>
      g (r1 :: rs) ρ2 (v1 :: vs) F2 H2 O2 (t1.trans t2) ⟨v1, vs, rfl, q1.tr t2, q2⟩ (by rw [List.length_cons, l2]; rfl) hk2⟩⟩
theorem rreps_len {σ : L2.St} {H0 F H : Hp} {S : SG} {ρ : En} : ∀ {rs : List R} {vs : List V}, RReps C S H0 F H σ ρ rs vs → vs.length = rs.length
  | [], _, h => by cases (show _ = [] from h); rfl
  | r :: rs, _, h => by
    obtain ⟨v, us, rfl, _, h2⟩ := h
    rw [List.length_cons, List.length_cons, rreps_len h2]
end
end VL
set_option maxHeartbeats 4000000
/-! VLf: displays, items, calls, methods, what is walked, comprehensions. -/
namespace VL
open PySem PySem.Spec PyProof.Rows L2
section
variable {C : CT} {Γ : Nat → VSp} {X : Cx} {cc : CC} {W : WP}
theorem map_len {f : Expr → VE} : ∀ es : List Expr, (mapE f es).len = es.length
  | [] => rfl
  | e :: es => by
    show (mapE f es).len + 1 = _
    rw [map_len es, List.length_cons]
theorem small_line {n : Nat} (h : n ≤ 1000) : n ≤ sizeLine := Nat.le_trans h (by decide)
theorem s_tup {f : Expr → VE} (h : ∀ e, PE X e (tE C Γ W (f e))) {es : List Expr} {k : Nat} {pos : Pos} (hs : noStars es = true) (hl : es.length ≤ 1000) : PE X (.Tuple es k pos) (tE C Γ W (.tup (mapE f es))) := by
  refine pe_imp (pe_tup (s_args h hs)) ?_
  rintro σ H Q ⟨S, F0, H0, F, ρ, K, E, O, hw, hx, g⟩
  unfold wE at hw
  refine ⟨S, F0, H0, F, ρ, _, E, O, hw, hx, fun rs ρ1 vs F1 H1 O1 t1 q1 l1 hk => ?_⟩
  obtain ⟨lv, hk⟩ := lvs_iff.mp hk
  obtain ⟨F2, O2, t2, r2⟩ := freezes O1 q1 lv
  refine ⟨small_line (by rw [rreps_len q1, l1, map_len]; exact hl), fun p hp => ?_⟩
  exact g (.val (.tup (rs.map R.d))) _ _ _ _ (O2.newF hp _) ((t1.trans t2).trans (Tr.newF hp (O2.new hp).2.2 _)) ⟨p, vs, rfl, .inl (.inl upd_same), r2.mono (Sub.upd (O2.new hp).2.2)⟩ trivial hk
theorem s_lst {f : Expr → VE} (h : ∀ e, PE X e (tE C Γ W (f e))) {es : List Expr} {pos : Pos} (hs : noStars es = true) (hl : es.length ≤ 1000) : PE X (.List es pos) (tE C Γ W (.lst (mapE f es))) := by
  refine pe_imp (pe_lst (s_args h hs)) ?_
  rintro σ H Q ⟨S, F0, H0, F, ρ, K, E, O, hw, hx, g⟩
  unfold wE at hw
  refine ⟨S, F0, H0, F, ρ, _, E, O, hw, hx, fun rs ρ1 vs F1 H1 O1 t1 q1 l1 hk => ?_⟩
  obtain ⟨lv, hk⟩ := lvs_iff.mp hk
  obtain ⟨F2, O2, t2, r2⟩ := freezes O1 q1 lv
  refine ⟨small_line (by rw [rreps_len q1, l1, map_len]; exact hl), fun p hp => ?_⟩
  have n := O2.new hp
  exact g (.tmp (.lst (rs.map R.d))) _ _ _ _ (O2.newO hp _) ((t1.trans t2).trans (Tr.newO hp _)) ⟨p, rfl, n.1, n.2.1, O2.noslot hp, vs, upd_same, r2⟩ (fun b e => by cases e; exact n.2.2) hk
theorem vIx_mono {x y : D} {K K' : D → Prop} (h : ∀ b, K b → K' b) (t : vIx x y K) : vIx x y K' := by
  unfold vIx at t ⊢
  split at t
  · obtain ⟨d, e, k⟩ := t; exact ⟨d, e, h _ k⟩
  · obtain ⟨d, e, k⟩ := t; exact ⟨d, e, h _ k⟩
  · obtain ⟨l, d, e, k⟩ := t; exact ⟨l, d, e, h _ k⟩
  · exact t
theorem s_ix (cx : Ctx C Γ X cc W) {a b : Expr} {pos : Pos} {va vb : VE} (hs : isSlice b = false) (ha : PE X a (tE C Γ W va)) (hb : PE X b (tE C Γ W vb)) : PE X (.Subscript a b pos) (tE C Γ W (.ix va vb)) := by
  refine pe_imp (pe_ix (ix_V cx.K) ha hb (slice_plain hs)) ?_
  rintro σ H Q ⟨S, F0, H0, F, ρ, K, E, O, hw, hx, g⟩
  unfold wE at hw
  refine ⟨S, F0, H0, F, ρ, _, E, O, hw, hx, fun r1 ρ1 v1 F1 H1 O1 t1 q1 f1 hw1 => ⟨S, F0, H0, F1, ρ1, _, E, O1, hw1, hx, fun r2 ρ2 v2 F2 H2 O2 t2 q2 f2 hk => ?_⟩⟩
  obtain ⟨w1, hk⟩ := view_of O2 (q1.tr t2) hk
  obtain ⟨w2, _⟩ := view_of O2 q2 f2.lv
  exact ⟨S, F2, _, _, O2.sub, w1, w2, vIx_mono (fun d hd v rv => g (.val d) ρ2 v F2 H2 O2 (t1.trans t2) rv trivial hd) hk⟩
theorem View.asInt {F H : Hp} {S : SG} {d : D} {v : V} {c : Int} (e : d = .int c) (h : View C S F H d v) : v = .int c := by
  subst e
  exact h.int
theorem s_po {f : Expr → VE} (h : ∀ e, PE X e (tE C Γ W (f e))) : ∀ o : Option Expr, PO X o (tO C Γ W (match o with
    | some e => .some (f e)
    | none => .none))
  | none => by
    refine po_imp po_none ?_
    rintro σ H Q ⟨S, F0, H0, F, ρ, K, E, O, hw, hx, g⟩
    unfold wO at hw
    exact g none ρ F H O Tr.refl hw
  | some e => by
    refine po_imp (po_some (h e)) ?_
    rintro σ H Q ⟨S, F0, H0, F, ρ, K, E, O, hw, hx, g⟩
    unfold wO at hw
    refine ⟨S, F0, H0, F, ρ, _, E, O, hw, hx, fun r1 ρ1 v1 F1 H1 O1 t1 q1 f1 hw1 => ?_⟩
    obtain ⟨i, e, hk⟩ := hw1
    obtain ⟨w1, _⟩ := view_of O1 q1 f1.lv
    exact ⟨i, w1.asInt e, g (some i) ρ1 F1 H1 O1 t1 hk⟩
theorem s_sl (cx : Ctx C Γ X cc W) {a : Expr} {lo hi : Option Expr} {p2 pos : Pos} {va : VE} {vl vh : VO} (ha : PE X a (tE C Γ W va)) (hl : PO X lo (tO C Γ W vl)) (hh : PO X hi (tO C Γ W vh)) : PE X (.Subscript a (.Slice lo hi none p2) pos) (tE C Γ W (.sl va vl vh)) := by
  refine pe_imp (pe_slice (sl_V cx.K) ha hl hh) ?_
  rintro σ H Q ⟨S, F0, H0, F, ρ, K, E, O, hw, hx, g⟩
  unfold wE at hw
  refine ⟨S, F0, H0, F, ρ, _, E, O, hw, hx, fun r1 ρ1 v1 F1 H1 O1 t1 q1 f1 hw1 => ⟨S, F0, H0, F1, ρ1, _, E, O1, hw1, hx, fun l ρ2 F2 H2 O2 t2 hw2 => ⟨S, F0, H0, F2, ρ2, _, E, O2, hw2, hx, fun u ρ3 F3 H3 O3 t3 hk => ?_⟩⟩⟩
  obtain ⟨w1, hk⟩ := view_of O3 (q1.tr (t2.trans t3)) hk
  exact ⟨S, F0, H0, F3, σ, ρ3, _, _, O3, w1, hk, fun r v F' H' O' t' q' f' hk' => g r ρ3 v F' H' O' ((t1.trans (t2.trans t3)).trans t') q' f' hk'⟩

/-! ### calls -/
section
variable {S : SG} {F0 H0 F F1 H F' H' : Hp} {σ : L2.St} {ρ ρ1 : En}
/-- behind a call: what was handed in stays frozen -/
theorem OK.call (O : OK C S F0 H0 F1 H σ ρ1) (e : Ext S F1 H F' H') : OK C S F0 H0 F' H' σ ρ1 where
  sub := e.sub
  fr := fun a o hp h => e.fr a o hp (O.fr a o hp h)
  p0 := O.p0
  f0 := O.f0.trans e.f
  fn := fun a o h => by
    rcases e.fn a o h with z | z
    · exact O.fn a o z
    · exact .inr (O.new z).1
  len := O.len
  val := fun i d h => by
    obtain ⟨v, e1, r⟩ := O.val i d h
    exact ⟨v, e1, r.mono e.f⟩
  own := fun i d h => by
    obtain ⟨a, e1, h0, f, hp, k⟩ := O.own i d h
    refine ⟨a, e1, h0, ?_, hp, ?_⟩
    · cases q : F' a with
      | none => rfl
      | some o =>
        rcases e.fn a o q with z | z
        · rw [f] at z; cases z
        · exact absurd e1 (O.noslot z i d h)
    · cases d with
      | lst ds =>
        obtain ⟨vs, z, r⟩ := k
        exact ⟨vs, e.fr a _ hp z, r.mono e.f⟩
      | _ => exact k.elim
  dis := O.dis
  sto := e.sto
theorem Ext.tr (e : Ext S F1 H F' H') : Tr S ρ ρ σ F1 H F' H' where
  f := e.f
  dom := fun a h => by
    cases q : H a with
    | none => exact absurd q h
    | some o =>
      by_cases hp : a = S.p
      · subst hp; exact e.sto.has
      · rw [e.fr a o hp q]; exact fun z => by cases z
  keep := fun a o h hp _ => e.fr a o hp h
  owns := fun _ d h => ⟨d, h⟩
/-- behind a call whose value has no parts: what was lent is owned again -/
theorem OK.callS (O : OK C S F0 H0 F H σ ρ) (s : Sub F F1) (e : Ext S F1 H F' H') : OK C S F0 H0 F H' σ ρ where
  sub := s.trans (e.f.trans e.sub)
  fr := fun a o hp h => e.fr a o hp (O.fr a o hp h)
  p0 := O.p0
  f0 := O.f0
  fn := O.fn
  len := O.len
  val := O.val
  own := fun i d h => by
    obtain ⟨a, e1, h0, f, hp, k⟩ := O.own i d h
    refine ⟨a, e1, h0, f, hp, ?_⟩
    cases d with
    | lst ds =>
      obtain ⟨vs, z, r⟩ := k
      exact ⟨vs, e.fr a _ hp z, r⟩
    | _ => exact k.elim
  dis := O.dis
  sto := ⟨O.sto.cells, O.sto.free, O.sto.len, e.sto.st⟩
theorem Ext.trS (s : Sub F F1) (e : Ext S F1 H F' H') : Tr S ρ ρ σ F H F H' where
  f := Sub.refl F
  dom := (e.tr (σ := σ) (ρ := ρ)).dom
  keep := fun a o h hp _ => e.fr a o hp h
  owns := fun _ d h => ⟨d, h⟩
end
theorem res_scal {S : SG} {H F' H' : Hp} {o : Bool} {d : D} {v : V} (hs : d.scal = true) (h : Res C S H F' H' o d v) : o = false ∧ Rep C S F' d v := by
  unfold Res at h
  cases o with
  | false => exact ⟨rfl, h⟩
  | true =>
    obtain ⟨a, _, _, _, _, k⟩ := h
    cases d <;> first | exact k.elim | cases hs
theorem call_core {W : WP} {k : Nat} {S : SG} {F0 H0 F H F1 H1 : Hp} {σ : L2.St} {ρ ρ1 : En} {K : EK} {E : VL.XK} {Q : VK} {rs : List R} {vs : List V} (hx : XOK C S F0 H0 W E) (g : Cont C S F0 H0 σ ρ F H K Q) (O1 : OK C S F0 H0 F1 H1 σ ρ1) (t1 : Tr S ρ ρ1 σ F H F1 H1) (q1 : RReps C S H0 F1 H1 σ ρ1 rs vs)
    (hk : lvs rs ρ1 ((Γ k).run (rs.map R.d) (fun o d => K (if o then .tmp d else .val d) (if d.scal then ρ1 else fzs rs ρ1)) fun x => E x (fzs rs ρ1))) : ∀ (P : SG → Prop), (∀ S, W.ok S → P S) → lift C P (Γ k) vs H1 Q (WE W.w σ) := by
  intro P hP
  obtain ⟨lv, hk⟩ := lvs_iff.mp hk
  obtain ⟨F2, O2, t2, r2⟩ := freezes O1 q1 lv
  unfold VSp.run at hk
  obtain ⟨x, ex, hp, hpost, hexc⟩ := hk
  rw [ex] at r2
  refine ⟨S, F2, x, hP S hx.1, O2.sub, O2.sto, r2, hp, fun o d v F' H' hq he hr => ?_, fun e cls dx F' H' hq he ha => hx.2 e _ F' H' σ cls dx (O2.call he) ha (hexc e hq)⟩
  have hk : K (if o = true then R.tmp d else R.val d) (if d.scal = true then ρ1 else fzs rs ρ1) := hpost o d hq
  cases hs : d.scal with
  | true =>
    rw [hs] at hk
    obtain ⟨e0, rv⟩ := res_scal hs hr
    subst e0
    exact g (.val d) ρ1 v F1 H' (O1.callS t2.f he) (t1.trans (he.trS t2.f)) (Rep.scal hs rv) trivial hk
  | false =>
    rw [hs] at hk
    have O3 := O2.call he
    have t3 := (t1.trans t2).trans he.tr
    unfold Res at hr
    cases o with
    | false => exact g (.val d) _ v F' H' O3 t3 hr trivial hk
    | true =>
      obtain ⟨a, e1, h1, f1, hpp, kk⟩ := hr
      refine g (.tmp d) _ v F' H' O3 t3 ⟨a, e1, (O2.new h1).1, hpp, O2.noslot h1, ?_⟩ (fun b e => by rw [e1] at e; cases e; exact f1) hk
      cases d with
      | lst ds => exact kk
      | _ => exact kk.elim
theorem run_fnX {lv : Nat} {f : Addr} {fd : FuncData} {ps : List Str} {sp : Addr × Obj → Sp} {CX : CXT} {E : L2.St → L2.XK} {p : Addr × Obj} {pins : List (Addr × Obj)} {σ : L2.St} {H : Hp} {s : Shared} {Q : VK} {us : List Value} {vs : List V} (F : FnX X.prog X.w X.K X.mg X.base CX lv f fd ps sp) (hr : L2H.RoomH lv X.A)
    (hp : p ∈ X.pn) (hot : L2H.Hot1 X.A p) (hb : Binds X.K fd ps []) (hx : PassesAt CX X σ (E σ)) (I : Inv X pins σ H s) (r : Vals vs us) (h : sp p vs H Q (E σ)) : wpAny (model X.prog X.w) X.A (PySem.call (.ref f) us) (EP X pins σ Q) X.xe s := by
  have hl : us.length = ps.length := by rw [← r.length]; exact F.len _ _ _ _ _ h
  have b := hb s us I.kIn (by rw [List.append_nil]; exact hl)
  rw [List.append_nil] at b
  have P1 := I.pin p (List.mem_append_left _ hp)
  have hpin : L2H.PinOk X.stack H s p := ⟨P1.1, P1.2.1, fun hm => (List.mem_cons.mp (I.stkSub p.1 hm)).elim P1.2.2.1 P1.2.2.2.1, P1.2.2.2.2⟩
  refine wpAny_call (codeAny_mono (F.run X.A X.stack s H ⟨us, []⟩ us vs Q (E σ) p hr hot hpin I.env0 b r h) fun r s' hq => ?_)
  cases r with
  | error e => exact hx pins H s e s' I hq
  | ok fl =>
    cases fl with
    | ret u => exact I.after hq
    | next => exact False.elim hq
    | brk => exact False.elim hq
    | cont => exact False.elim hq
theorem pe_callX {lv : Nat} {f : Addr} {fd : FuncData} {ps : List Str} {sp : Addr × Obj → Sp} {CX : CXT} {E : L2.St → L2.XK} {p : Addr × Obj} {x : Str} {q pos : Pos} {e : Expr} {es : List Expr} {t : TA} (F : FnX X.prog X.w X.K X.mg X.base CX lv f fd ps sp) (hr : L2H.RoomH lv X.A) (hp : p ∈ X.pn) (hot : L2H.Hot1 X.A p)
    (hg : Gl X x) (hm : X.mg x = some (.ref f)) (hk : PySem.W.keepIn X.K (.ref f) = true) (hb : Binds X.K fd ps []) (hx : ∀ σ, PassesAt CX X σ (E σ))
    (ha : PA X (e :: es) t) (hdb : (x == ("__debug__" : Str)) = false) (he : starEach (e :: es) X.env = (false, eval e X.env) :: starEach es X.env) (hpl : (backTo pos (starEach es X.env)).any (·.1) = false) :
    PE X (.Call (.Name x q) (e :: es) [] pos) (tCallS (sp p) E t) := by
  refine ⟨fun pins s σ H Q I h => ?_⟩
  refine wpAny_Call_Name_kw (ld_glob I hg hm ?_ hdb)
  refine PySem.W.callWith_K (h₀ := X.base) I.ok.mod.kin hk (thn (ha.run pos pins s σ H _ I h) fun us s1 ⟨vs, H1, I1, r, q⟩ => ⟨I1.kIn, ?_⟩) he hpl
  exact run_fnX F hr hp hot hb (hx σ) I1 r q
theorem s_call (cx : Ctx C Γ X cc W) {f : Expr → VE} (h : ∀ e, PE X e (tE C Γ W (f e))) {x : Str} {k : Nat} {e : Expr} {es : List Expr} {p pos : Pos} (hg : cc.gl x = true) (hf : cc.fns.lookup x = some k) (hs : noStars (e :: es) = true) :
    PE X (.Call (.Name x p) (e :: es) [] pos) (tE C Γ W (.call k (mapE f (e :: es)))) := by
  obtain ⟨lv, fa, fd, ps, Fc, Fh, hm, hk, hb⟩ := cx.fns x k hf
  have hs' := hs
  unfold noStars at hs'
  rw [List.all_cons, Bool.and_eq_true] at hs'
  cases hh : cc.hot with
  | false =>
    obtain ⟨F, hr⟩ := Fc hh
    refine pe_imp (pe_callS (E := WE W.w) F hr (cx.glob hg) hm hk hb (L2N.passAt cx.tk) (s_args h hs) (okN_ok (CC.gl_okN hg)).1 (star_cons (by simpa using hs'.1)) (by rw [back_any]; exact star_plain hs'.2)) ?_
    rintro σ H Q ⟨S, F0, H0, F, ρ, K, E, O, hw, hx, g⟩
    unfold wE at hw
    exact ⟨S, F0, H0, F, ρ, _, E, O, hw, hx, fun rs ρ1 vs F1 H1 O1 t1 q1 l1 hk => call_core hx g O1 t1 q1 hk _ (fun S h => (cx.cold hh).2 ▸ h)⟩
  | true =>
    obtain ⟨F, hr⟩ := Fh hh
    obtain ⟨pp, cls, d, hpn, zn, ⟨fv, hfv⟩, hot, hok⟩ := cx.hot hh
    refine pe_imp (pe_callX (E := WE W.w) (p := pp) F hr hpn ⟨hot, fv, hfv, zn.2.2 fv hfv⟩ (cx.glob hg) hm hk hb (L2N.passAt cx.tk) (s_args h hs) (okN_ok (CC.gl_okN hg)).1 (star_cons (by simpa using hs'.1)) (by rw [back_any]; exact star_plain hs'.2)) ?_
    rintro σ H Q ⟨S, F0, H0, F, ρ, K, E, O, hw, hx, g⟩
    unfold wE at hw
    exact ⟨S, F0, H0, F, ρ, _, E, O, hw, hx, fun rs ρ1 vs F1 H1 O1 t1 q1 l1 hk => call_core hx g O1 t1 q1 hk _ (fun S h => by
      rw [hok] at h
      obtain ⟨c, dx, e1, e2, e3⟩ := h
      subst e2 e3
      exact ⟨c, dx, e1, zn, fv, hfv⟩)⟩
theorem boots : ∀ x b, bNames.lookup x = some b → bootBuiltins x = some (bV b) ∧ b ≠ .range := by
  intro x b h
  have : (x, b) ∈ bNames := by
    have := List.lookup_eq_some_iff.mp h
    obtain ⟨l1, l2, e, _⟩ := this
    rw [e]
    simp
  unfold bNames at this
  simp only [List.mem_cons, Prod.mk.injEq, List.not_mem_nil, or_false] at this
  rcases this with ⟨rfl, rfl⟩ | ⟨rfl, rfl⟩ | ⟨rfl, rfl⟩ | ⟨rfl, rfl⟩ | ⟨rfl, rfl⟩ | ⟨rfl, rfl⟩ | ⟨rfl, rfl⟩ | ⟨rfl, rfl⟩ | ⟨rfl, rfl⟩ | ⟨rfl, rfl⟩ | ⟨rfl, rfl⟩ <;> exact ⟨by decide +kernel, by decide⟩
theorem bV_kind (b : B) : (∃ id, bV b = .builtin id) ∨ ∃ T, bV b = .type T := by cases b <;> first | exact .inl ⟨_, rfl⟩ | exact .inr ⟨_, rfl⟩
theorem s_blt (cx : Ctx C Γ X cc W) {f : Expr → VE} (h : ∀ e, PE X e (tE C Γ W (f e))) {x : Str} {b : B} {e : Expr} {es : List Expr} {p pos : Pos} (hg : cc.free x = true) (hb : bNames.lookup x = some b) (hs : noStars (e :: es) = true) (hot : (!cc.hot || b.hotOk) = true) :
    PE X (.Call (.Name x p) (e :: es) [] pos) (tE C Γ W (.blt b (mapE f (e :: es)))) := by
  obtain ⟨g1, g2, g3⟩ := CC.free_ok hg
  obtain ⟨hv, hr⟩ := boots x b hb
  have hs' := hs
  unfold noStars at hs'
  rw [List.all_cons, Bool.and_eq_true] at hs'
  have main : ∀ σ H Q, tE C Γ W (.blt b (mapE f (e :: es))) σ H Q → tCB (rBlt C b) (tEs C Γ W (mapE f (e :: es))) σ H Q := by
    rintro σ H Q ⟨S, F0, H0, F, ρ, K, E, O, hw, hx, g⟩
    unfold wE at hw
    refine ⟨S, F0, H0, F, ρ, _, E, O, hw, hx, fun rs ρ1 vs F1 H1 O1 t1 q1 l1 hk => ?_⟩
    obtain ⟨w1, hk⟩ := views_of O1 q1 hk
    exact ⟨S, F0, H0, F1, σ, ρ1, _, _, O1, w1, hr, hk, fun r v F' H' O' t' q' f' hk' => g r ρ1 v F' H' O' (t1.trans t') q' f' hk'⟩
  have cr := call_blt (X := X) cx.K (b := b) (by
    cases hh : cc.hot with
    | false => exact .inl (cx.cold hh).1
    | true => rw [hh] at hot; exact .inr (by simpa using hot))
  rcases bV_kind b with ⟨id, e1⟩ | ⟨T, e1⟩
  · rw [e1] at hv cr
    exact pe_imp (pe_callB cr (cx.glob g1) (cx.blt x g2) hv (s_args h hs) g3 (okN_ok (CC.gl_okN g1)).1 (star_cons (by simpa using hs'.1)) (by rw [back_any]; exact star_plain hs'.2)) main
  · rw [e1] at hv cr
    exact pe_imp (pe_callTy cr (cx.glob g1) (cx.blt x g2) hv (s_args h hs) g3 (okN_ok (CC.gl_okN g1)).1 (star_cons (by simpa using hs'.1)) (by rw [back_any]; exact star_plain hs'.2)) main
theorem tys : ∀ x n, tNames.lookup x = some n → bootBuiltins x = some (.type n) ∧ n ∈ ["NoneType", "bool", "int", "str", "list", "tuple", "dict"] := by
  intro x b h
  have : (x, b) ∈ tNames := by
    have := List.lookup_eq_some_iff.mp h
    obtain ⟨l1, l2, e, _⟩ := this
    rw [e]
    simp
  unfold tNames at this
  simp only [List.mem_cons, Prod.mk.injEq, List.not_mem_nil, or_false] at this
  rcases this with ⟨rfl, rfl⟩ | ⟨rfl, rfl⟩ | ⟨rfl, rfl⟩ | ⟨rfl, rfl⟩ | ⟨rfl, rfl⟩ | ⟨rfl, rfl⟩ <;> exact ⟨by decide +kernel, by simp⟩
theorem vIsin_mono {d : D} {t : Ty} {K K' : Bool → Prop} (h : ∀ b, K b → K' b) (q : vIsin d t K) : vIsin d t K' := by
  unfold vIsin at q ⊢
  split at q
  · split at q <;> first | exact h _ q | exact q
  · split at q <;> first | exact h _ q | exact ⟨q.choose, q.choose_spec.1, h _ q.choose_spec.2⟩ | exact q
theorem s_isin (cx : Ctx C Γ X cc W) {a : Expr} {va : VE} {t : Str} {n : String} {p p2 pos : Pos} (hg : cc.free "isinstance" = true) (ht : cc.free t = true) (hn : tNames.lookup t = some n) (hs : isStar a = false) (ha : PE X a (tE C Γ W va)) :
    PE X (.Call (.Name "isinstance" p) [a, .Name t p2] [] pos) (tE C Γ W (.isin va (.bi n))) := by
  obtain ⟨g1, g2, g3⟩ := CC.free_ok hg
  obtain ⟨u1, u2, u3⟩ := CC.free_ok ht
  obtain ⟨hv, hmem⟩ := tys t n hn
  have st1 : starEach [a, .Name t p2] X.env = (false, eval a X.env) :: starEach [.Name t p2] X.env := star_cons hs
  refine pe_imp (pe_callB call_isi (cx.glob g1) (cx.blt _ g2) (by decide +kernel) (pa_cons ha (pa_cons (pe_bltn (v := .ty n) (cx.glob u1) (cx.blt _ u2) hv rfl u3 (okN_ok (CC.gl_okN u1)).1) pa_nil rfl) st1) g3 (okN_ok (CC.gl_okN g1)).1 st1 (by rw [back_any]; rfl)) ?_
  rintro σ H Q ⟨S, F0, H0, F, ρ, K, E, O, hw, hx, g⟩
  unfold wE at hw
  refine ⟨S, F0, H0, F, ρ, _, E, O, hw, hx, fun r1 ρ1 v1 F1 H1 O1 t1 q1 f1 hw1 => ?_⟩
  obtain ⟨w1, _⟩ := view_of O1 q1 f1.lv
  exact isin_V cx.K O1.sub w1 hmem (vIsin_mono (fun b hb => g (.val (.bl b)) ρ1 _ F1 H1 O1 t1 rrep_bl trivial hb) hw1)

/-! ### the handled exception -/
/-- isinstance(e, c), e the exception that is handled -/
def rIsX (K : PySem.W.Frag) (a : Addr) (cls : Value) (d : Option Addr) : List V → Hp → VK → Prop := fun xs H Q => ∃ (c : V) (cv : Value) (b : Bool) (D dx : Addr) (fl : List (Str × V)), xs = [.ref a, c] ∧ (∀ u, RelV c u → u = cv) ∧ cls = .ref D ∧ d = some dx ∧ H dx = some (.xd fl) ∧ ExcC K D ∧ PySem.W.kitOne K (.ref D) cv = some b ∧ Q (.bl b) H
theorem call_isX {p : Addr × Obj} {cls : Value} {d : Option Addr} (hp : p ∈ X.pn) (hz : L2N.Zn cls d p.2) (hf : ∃ vs, p.2.data = .fields vs) : CallR X (.builtin "isinstance") (rIsX X.K p.1 cls d) := by
  intro pins s σ H xs us Q I r h
  obtain ⟨c, cv, b, D, dx, fl, rfl, hcv, rfl, rfl, hd, T, e, q⟩ := h
  cases r with
  | cons rx rr =>
    cases rr with
    | cons rt rr =>
      cases rr
      cases rx
      have ec := hcv _ rt
      subst ec
      obtain ⟨hget, _⟩ := I.pin p (List.mem_append.mpr (.inl hp))
      obtain ⟨vs, hv⟩ := hf
      have hx : ObjOk X.prog X.w H s.heap dx (.xd fl) := I.hok dx _ hd
      obtain ⟨mA, hns, hr⟩ := hx
      obtain ⟨od, ho, hl⟩ := lookIn_ns hns
      have J : PySem.W.InstAt s.heap p.1 p.2 D (some od) := ⟨hget, hz.1, by unfold PySem.W.notCls; rw [hv] <;> rfl, by rw [hz.2.1]; exact ho⟩
      have hcl : (PySem.W.clsIn X.K D).isSome = true := by
        obtain ⟨cd, hc, _⟩ := PySem.W.any_some T.hd
        rw [hc] <;> rfl
      exact PySem.W.kia_one (PySem.W.kitx_exc hcl T.hg T.hk T.hs T.ha T.hn T.ht T.hm) I.kIn J e (fun z => nomatch z) fun tk => ⟨.bl b, H, I.kept (t' := tk) fun _ _ z => z, rfl, q⟩
/-- the name of a class, as a value -/
theorem pe_cname {t : Str} {v : V} {cv : Value} {p : Pos} (hg : Gl X t) (hdb : (t == ("__debug__" : Str)) = false) (hv : RelV v cv) (h : X.mg t = some cv ∨ (X.mg t = none ∧ bootBuiltins t = some cv ∧ t ≠ ("__name__" : Str))) : PE X (.Name t p) (L2.tC v) := by
  rcases h with h | ⟨h1, h2, h3⟩
  · exact pe_glob hg h hv hdb
  · exact pe_bltn hg h1 h2 hv h3 hdb
theorem s_isinX (cx : Ctx C Γ X cc W) {a : Expr} {va : VE} {t : Str} {tab : List (Nat × Bool)} {p p2 pos : Pos} (hg : cc.free "isinstance" = true) (hh : cc.hot = true) (ht : cc.gl t = true) (hn : cc.isx.lookup t = some tab) (hs : isStar a = false) (ha : PE X a (tE C Γ W va)) :
    PE X (.Call (.Name "isinstance" p) [a, .Name t p2] [] pos) (tE C Γ W (.isin va (.own tab))) := by
  obtain ⟨g1, g2, g3⟩ := CC.free_ok hg
  obtain ⟨pp, cls, d, hpn, zn, hfv, hot, hok⟩ := cx.hot hh
  obtain ⟨v, cv, hrel, hmean, htab⟩ := cx.ix t tab hn
  have st1 : starEach [a, .Name t p2] X.env = (false, eval a X.env) :: starEach [.Name t p2] X.env := star_cons hs
  refine pe_imp (pe_callB (call_isX hpn zn hfv) (cx.glob g1) (cx.blt _ g2) (by decide +kernel) (pa_cons ha (pa_cons (pe_cname (cx.glob ht) (okN_ok (CC.gl_okN ht)).1 ((hrel cv).mpr rfl) hmean) pa_nil rfl) st1) g3 (okN_ok (CC.gl_okN g1)).1 st1 (by rw [back_any]; rfl)) ?_
  rintro σ H Q ⟨S, F0, H0, F, ρ, K, E, O, hw, hx, g⟩
  unfold wE at hw
  refine ⟨S, F0, H0, F, ρ, _, E, O, hw, hx, fun r1 ρ1 v1 F1 H1 O1 t1 q1 f1 hw1 => ?_⟩
  obtain ⟨w1, _⟩ := view_of O1 q1 f1.lv
  have hxo := hx.1
  rw [hok] at hxo
  obtain ⟨c0, dx, e1, e2, e3⟩ := hxo
  simp only [vIsin] at hw1
  split at hw1
  · rename_i c fs hd
    obtain ⟨b, hb, hk⟩ := hw1
    rw [hd] at w1
    have w1 : Rep C S F1 (.exn c fs) v1 := w1
    unfold Rep at w1
    obtain ⟨a', dx', fl, vs, e4, e5, e6, _, _⟩ := w1
    rw [e1] at e4
    cases e4
    obtain ⟨T, k1, _⟩ := htab c0 b hb
    subst e5 e2 e3
    exact ⟨v, cv, b, C.cls c0, dx, fl, rfl, fun u hu => (hrel u).mp hu, rfl, rfl, O1.sub _ _ e6, T, k1, g (.val (.bl b)) ρ1 _ F1 H1 O1 t1 rrep_bl trivial hk⟩
  · exact hw1.elim
theorem pe_xfX {p : Addr × Obj} {cls : Value} {d : Option Addr} (hp : p ∈ X.pn) (hz : L2N.Zn cls d p.2) (hf : ∃ vs, p.2.data = .fields vs) {e : Expr} {te : TE} {pos : Pos} {n : Str} (he : PE X e te) (hb : attributeBase e n X.env (eval e X.env) = eval e X.env) :
    PE X (.Attribute e n pos) (fun σ H Q => te σ H fun x H1 => ∃ D, XfC X.K D ∧ PySem.W.findIn X.K (.ref D) n = some none ∧ tXf p.1 cls d D n (fun _ H Q => Q x H) σ H1 Q) := by
  refine ⟨fun pins s σ H Q I h => ?_⟩
  refine attr_of hb (thn (he.run pins s σ H _ I h) fun u s1 hh => ?_)
  obtain ⟨x, H1, I1, rx, C, T, hno, ex, ec, dd, fs, v, ed, ea, l, q⟩ := hh
  subst ex
  obtain rfl : u = Value.ref p.1 := rx
  subst ec
  subst ed
  obtain ⟨ha, _⟩ := I1.pin p (List.mem_append_left _ hp)
  obtain ⟨vs, hd⟩ := hf
  have hx : ObjOk X.prog X.w H1 s1.heap dd (.xd fs) := I1.hok dd _ ea
  obtain ⟨mA, hns, hr⟩ := hx
  obtain ⟨od, ho, hl⟩ := lookIn_ns hns
  obtain ⟨u, hu, ru⟩ := RelO.some_of (v := v) (o := mA n) (by rw [← l]; exact hr n)
  have J : PySem.W.InstAt s1.heap p.1 p.2 C (some od) := ⟨ha, hz.1, by unfold PySem.W.notCls; rw [hd] <;> rfl, by rw [hz.2.1]; exact ho⟩
  exact HandSPX.exc_get I1.kIn J T.ga T.gg T.exC (PySem.W.findObj_own T.hdC hno rfl (by rw [hl, hu])) (handed_of ru) ⟨v, H1, I1.tok _, ru, q⟩
theorem s_fldX (cx : Ctx C Γ X cc W) {x f : Str} {va : VE} {tab : List (Nat × Nat)} {p pos : Pos} (hh : cc.hot = true) (hn : cc.flds.lookup f = some tab) (ha : PE X (.Name x p) (tE C Γ W va)) :
    PE X (.Attribute (.Name x p) f pos) (tE C Γ W (.fld va tab)) := by
  obtain ⟨pp, cls, d, hpn, zn, hfv, hot, hok⟩ := cx.hot hh
  refine pe_imp (pe_xfX hpn zn hfv ha (by rfl)) ?_
  rintro σ H Q ⟨S, F0, H0, F, ρ, K, E, O, hw, hx, g⟩
  unfold wE at hw
  refine ⟨S, F0, H0, F, ρ, _, E, O, hw, hx, fun r1 ρ1 v1 F1 H1 O1 t1 q1 f1 hw1 => ?_⟩
  obtain ⟨w1, _⟩ := view_of O1 q1 f1.lv
  have hxo := hx.1
  rw [hok] at hxo
  obtain ⟨c0, dx, e1, e2, e3⟩ := hxo
  have hw1 : vFld r1.d tab (fun d => K (.val d) ρ1) := hw1
  unfold vFld at hw1
  split at hw1
  · rename_i c fs hd
    obtain ⟨i, d1, hi, hd1, hk⟩ := hw1
    rw [hd] at w1
    have w1 : Rep C S F1 (.exn c fs) v1 := w1
    unfold Rep at w1
    obtain ⟨a', dx', fl, vs, e4, e5, e6, e7, r1⟩ := w1
    rw [e1] at e4
    cases e4
    obtain ⟨k1, k2, k3⟩ := cx.fl f tab c0 i hn hi
    obtain ⟨v, hv, rv⟩ := r1.at hd1
    subst e5 e2 e3
    exact ⟨C.cls c0, k2, k3, rfl, rfl, dx, fl, v, rfl, O1.sub _ _ e6, (e7.2 i f k1).trans hv, g (.val d1) ρ1 _ F1 H1 O1 t1 rv trivial hk⟩
  · exact hw1.elim
end
end VL
set_option maxHeartbeats 4000000
/-! VLg: methods, list(range(..)), targets, what is walked. -/
namespace VL
open PySem PySem.Spec PyProof.Rows L2
section
variable {C : CT} {Γ : Nat → VSp} {X : Cx} {cc : CC} {W : WP}
/-! ### methods -/
/-- what a method of a value's type is: asked behind the receiver's evaluation -/
def MetOk (X : Cx) (name : Str) (r : V → List V → Hp → VK → Prop) (x : V) (H : Hp) : Prop := ∃ T id, PlainAttrs T ∧ PySem.Slot T name id ∧ typeOf (.builtin id) = pure (.type "method_descriptor") ∧ MtR X id r ∧ tyV X.K T x H
theorem pe_bmU {o e : Expr} {es : List Expr} {to : TE} {t : TA} {name : Str} {apos cpos : Pos} {r : V → List V → Hp → VK → Prop} (ho : PE X o to) (ha : PA X (e :: es) t)
    (hbase : attributeBase o name X.env (eval o X.env) = eval o X.env)
    (hfew : ((backTo cpos (starEach (e :: es) X.env)).all (fun x => !x.1) && (backToKw cpos (keywordEach [] X.env)).all (fun x => x.1.isSome)
      && decide ((e :: es).length + ([] : List Keyword).length + (if ([] : List Keyword).isEmpty then 0 else 1) < 30)) = true)
    (hline : (apos.endLine == cpos.line) = true) (hs : starEach (e :: es) X.env = (false, eval e X.env) :: starEach es X.env) (hplain : (backTo cpos (starEach es X.env)).any (·.1) = false) :
    PE X (.Call (.Attribute o name apos) (e :: es) [] cpos) (fun σ H Q => to σ H fun x H1 => MetOk X name r x H1 ∧ t σ H1 fun xs H2 => r x xs H2 Q) := by
  refine ⟨fun pins s σ H Q I h => ?_⟩
  refine wpAny_Call_method_late hbase hfew hline rfl (thn (ho.run pins s σ H _ I h) fun v s1 ⟨x, H1, I1, r1, ⟨T, id, pa, slot, hty, hm, ty⟩, q1⟩ => ?_)
  obtain ⟨h1, h2⟩ := tyV_is I1 r1 ty
  refine ⟨T, id, pa, slot, hty, h1, h2, ?_⟩
  have hA := ha.run cpos pins s1 σ H1 _ I1 q1
  rw [hs] at hA ⊢
  refine Calls.callWith_builtin (by show (false || (backTo cpos (starEach es X.env)).any (·.1)) = false; rw [hplain] <;> rfl) (Calls.evalArgs_plain ?_)
  exact thn hA fun us s2 ⟨vs, H2, I2, r2, q2⟩ => hm pins s2 σ H2 x vs v us Q I2 r1 r2 q2
theorem pe_bmU0 {o : Expr} {to : TE} {name : Str} {apos cpos : Pos} {r : V → List V → Hp → VK → Prop} (ho : PE X o to) (hbase : attributeBase o name X.env (eval o X.env) = eval o X.env) (hline : (apos.endLine == cpos.line) = true) :
    PE X (.Call (.Attribute o name apos) [] [] cpos) (fun σ H Q => to σ H fun x H1 => MetOk X name r x H1 ∧ r x [] H1 Q) := by
  refine ⟨fun pins s σ H Q I h => ?_⟩
  refine wpAny_Call_method0_late hbase hline (thn (ho.run pins s σ H _ I h) fun v s1 ⟨x, H1, I1, r1, ⟨T, id, pa, slot, hty, hm, ty⟩, q1⟩ => ?_)
  obtain ⟨h1, h2⟩ := tyV_is I1 r1 ty
  exact ⟨T, id, pa, slot, hty, h1, h2, Calls.callWith_builtin rfl (PySem.evalArgs_none (hm pins s1 σ H1 x [] v [] Q I1 r1 .nil q1))⟩
/-- with n arguments -/
def rMetN (C : CT) (m : M) (n : Nat) : V → List V → Hp → VK → Prop := fun x xs H Q => xs.length = n ∧ rMet C m x xs H Q
theorem mtN {id : String} {m : M} {n : Nat} (h : MtR X id (rMet C m)) : MtR X id (rMetN C m n) := fun pins s σ H x xs v us Q I rx rxs q => h pins s σ H x xs v us Q I rx rxs q.2
theorem mt_popN {n : Nat} : MtR X "list.pop" (rMetN C .pop n) := fun pins s σ H x xs v us Q I rx rxs q => by
  obtain ⟨hn, q⟩ := q
  match xs, hn, rxs, q with
  | [], _, rxs, q => exact mt_popV0 pins s σ H x [] v us Q I rx rxs ⟨rfl, q⟩
  | [y], _, rxs, q => exact mt_popV1 pins s σ H x [y] v us Q I rx rxs ⟨⟨y, rfl⟩, q⟩
  | _ :: _ :: _, _, rxs, q =>
    exfalso
    obtain ⟨S, F0, H0, F, σ2, ρ, r0, rs, K, O, hr0, hrs, l0, ls, hv, g⟩ := q
    have l := rreps_len hrs
    unfold vMet at hv
    split at hv <;> first | (rename_i hm _; cases hm; done) | (rename_i hm; cases hm; done) | (simp at l; done) | exact hv.elim
theorem lst_ty {F H : Hp} {S : SG} {ds : List D} {v : V} (h : View C S F H (.lst ds) v) : tyV X.K "list" v H := by
  obtain ⟨a, vs, rfl, q, r⟩ := h.lst
  exact .inl ⟨rfl, vs, .of q⟩
theorem met_ok (cx : Ctx C Γ X cc W) {name : Str} {m : M} {n : Nat} {d : D} {v : V} {S : SG} {F H : Hp} {P : Prop} (h : mNames.lookup name = some m) (hv : View C S F H d v) (hr : recv m d P) : MetOk X name (rMetN C m n) v H ∧ P := by
  have : (name, m) ∈ mNames := by
    have := List.lookup_eq_some_iff.mp h
    obtain ⟨l1, l2, e, _⟩ := this
    rw [e]
    simp
  unfold mNames at this
  simp only [List.mem_cons, Prod.mk.injEq, List.not_mem_nil, or_false] at this
  rcases this with ⟨rfl, rfl⟩ | ⟨rfl, rfl⟩ | ⟨rfl, rfl⟩ | ⟨rfl, rfl⟩ | ⟨rfl, rfl⟩
  · cases d <;> first | exact hr.elim | skip
    exact ⟨⟨"list", "list.append", PySem.F.plainAttrs_list, PySem.F.slot_list_append, PySem.F.type_list_append, mtN mt_appendV, lst_ty hv⟩, hr⟩
  · cases d <;> first | exact hr.elim | skip
    exact ⟨⟨"list", "list.pop", PySem.F.plainAttrs_list, PySem.F.slot_list_pop, PySem.F.type_list_pop, mt_popN, lst_ty hv⟩, hr⟩
  · cases d <;> first | exact hr.elim | skip
    exact ⟨⟨"list", "list.extend", PySem.F.plainAttrs_list, PySem.F.slot_list_extend, PySem.F.type_list_extend, mtN mt_extendV, lst_ty hv⟩, hr⟩
  · cases d <;> first | exact hr.elim | skip
    exact ⟨⟨"list", "list.insert", PySem.F.plainAttrs_list, PySem.F.slot_list_insert, PySem.F.type_list_insert, mtN mt_insertV, lst_ty hv⟩, hr⟩
  · cases d <;> first | exact hr.elim | skip
    exact ⟨⟨"list", "list.index", PySem.F.plainAttrs_list, PySem.F.slot_list_index, PySem.F.type_list_index, mtN (mt_indexV cx.K), lst_ty hv⟩, hr⟩
theorem few {es : List Expr} {env : PySem.Env} {pos : Pos} (h : noStars es = true) (hl : es.length ≤ 20) : ((backTo pos (starEach es env)).all (fun x => !x.1) && (backToKw pos (keywordEach [] env)).all (fun x => x.1.isSome)
      && decide (es.length + ([] : List Keyword).length + (if ([] : List Keyword).isEmpty then 0 else 1) < 30)) = true := by
  have h1 : (backTo pos (starEach es env)).any (·.1) = false := by rw [back_any]; exact star_plain h
  have h2 : (backTo pos (starEach es env)).all (fun x => !x.1) = true := by
    rw [List.all_eq_true]
    intro x hx
    have := List.any_eq_false.mp h1 x hx
    simpa using this
  rw [h2]
  have h3 : (backToKw pos (keywordEach [] env)).all (fun x => x.1.isSome) = true := rfl
  rw [h3]
  have h4 : es.length + ([] : List Keyword).length + (if ([] : List Keyword).isEmpty then 0 else 1) < 30 := by
    show es.length + 0 + 0 < 30
    omega
  rw [decide_eq_true h4] <;> rfl
theorem met_core {W : WP} {m : M} {S : SG} {F0 H0 F H F1 H1 F2 H2 : Hp} {σ : L2.St} {ρ ρ1 ρ2 : En} {K : EK} {Q : VK} {r1 : R} {v1 : V} {rs : List R} {vs : List V} (g : Cont C S F0 H0 σ ρ F H K Q) (t1 : Tr S ρ ρ1 σ F H F1 H1) (q1 : RRep C S H0 F1 H1 σ ρ1 r1 v1)
    (O2 : OK C S F0 H0 F2 H2 σ ρ2) (t2 : Tr S ρ1 ρ2 σ F1 H1 F2 H2) (q2 : RReps C S H0 F2 H2 σ ρ2 rs vs) (hk : r1.lv ρ2 (lvs rs ρ2 (vMet m r1 rs ρ2 K))) : rMetN C m rs.length v1 vs H2 Q := by
  obtain ⟨l1, hk⟩ := lv_iff.mp hk
  obtain ⟨lv, hk⟩ := lvs_iff.mp hk
  exact ⟨rreps_len q2, S, F0, H0, F2, σ, ρ2, r1, rs, K, O2, q1.tr t2, q2, l1, lv, hk, fun r ρ' v F' H' O' t' q' f' hk' => g r ρ' v F' H' O' ((t1.trans t2).trans t') q' f' hk'⟩
theorem s_met (cx : Ctx C Γ X cc W) {f : Expr → VE} (h : ∀ e, PE X e (tE C Γ W (f e))) {o : Expr} {name : Str} {m : M} {args : List Expr} {ap cp : Pos} (hb : attributeBase o name X.env (eval o X.env) = eval o X.env) (hm : mNames.lookup name = some m) (hs : noStars args = true) (hl : args.length ≤ 20) (hline : (ap.endLine == cp.line) = true) :
    PE X (.Call (.Attribute o name ap) args [] cp) (tE C Γ W (.met m (f o) (mapE f args))) := by
  cases args with
  | nil =>
    refine pe_imp (pe_bmU0 (r := rMetN C m 0) (h o) hb hline) ?_
    rintro σ H Q ⟨S, F0, H0, F, ρ, K, E, O, hw, hx, g⟩
    unfold wE at hw
    refine ⟨S, F0, H0, F, ρ, _, E, O, hw, hx, fun r1 ρ1 v1 F1 H1 O1 t1 q1 f1 hw1 => ?_⟩
    obtain ⟨w1, _⟩ := view_of O1 q1 f1.lv
    obtain ⟨ok, hw1⟩ := met_ok cx (n := 0) hm w1 hw1
    unfold mapE wEs at hw1
    exact ⟨ok, met_core (W := W) (rs := []) g t1 q1 O1 Tr.refl rfl hw1⟩
  | cons e es =>
    have hs' := hs
    unfold noStars at hs'
    rw [List.all_cons, Bool.and_eq_true] at hs'
    refine pe_imp (pe_bmU (r := rMetN C m (e :: es).length) (h o) (s_args h hs) hb (few hs hl) hline (star_cons (by simpa using hs'.1)) (by rw [back_any]; exact star_plain hs'.2)) ?_
    rintro σ H Q ⟨S, F0, H0, F, ρ, K, E, O, hw, hx, g⟩
    unfold wE at hw
    refine ⟨S, F0, H0, F, ρ, _, E, O, hw, hx, fun r1 ρ1 v1 F1 H1 O1 t1 q1 f1 hw1 => ?_⟩
    obtain ⟨w1, _⟩ := view_of O1 q1 f1.lv
    obtain ⟨ok, hw1⟩ := met_ok cx (n := (e :: es).length) hm w1 hw1
    refine ⟨ok, S, F0, H0, F1, ρ1, _, E, O1, hw1, hx, fun rs ρ2 vs F2 H2 O2 t2 q2 l2 hk => ?_⟩
    have := met_core (W := W) g t1 q1 O2 t2 q2 hk
    rw [l2, map_len] at this
    exact this

/-! ### list(range(..)) -/
theorem reps_rng {S : SG} {F : Hp} (lo hi : Int) : Reps C S F (rngD lo hi) (rgV lo hi) := Reps.mapL (fun _ => rep_int) _
theorem lrg_fin {S : SG} {F0 H0 F H F1 H1 : Hp} {σ : L2.St} {ρ ρ1 : En} {K : EK} {Q : VK} {lo n : Int} (g : Cont C S F0 H0 σ ρ F H K Q) (O1 : OK C S F0 H0 F1 H1 σ ρ1) (t1 : Tr S ρ ρ1 σ F H F1 H1) (hb : 0 ≤ lo ∧ lo ≤ lim ∧ 0 ≤ n ∧ n ≤ lim) (hk : K (.tmp (.lst (rngD lo n))) ρ1) :
    RgOk lo n ∧ ∀ q, H1 q = none → Q (.ref q) (upd H1 q (.lst (rgV lo n))) := by
  have e : (lim : Int) = 1000000 := rfl
  obtain ⟨h1, h2, h3, h4⟩ := hb
  refine ⟨.of_le h1 (by omega) (by omega) h3, fun p hp => ?_⟩
  have nn := O1.new hp
  exact g (.tmp (.lst (rngD lo n))) ρ1 _ _ _ (O1.newO hp _) (t1.trans (Tr.newO hp _)) ⟨p, rfl, nn.1, nn.2.1, O1.noslot hp, _, upd_same, reps_rng lo n⟩ (fun b e => by cases e; exact nn.2.2) hk
theorem s_lrg1 (cx : Ctx C Γ X cc W) {a : Expr} {va : VE} {p p2 pos pos2 : Pos} (hcold : cc.hot = false) (h1 : cc.free "list" = true) (h2 : cc.free "range" = true) (hs : isStar a = false) (ha : PE X a (tE C Γ W va)) : PE X (.Call (.Name "list" p) [.Call (.Name "range" p2) [a] [] pos2] [] pos) (tE C Γ W (.lrg .none va)) := by
  obtain ⟨g1, g2, g3⟩ := CC.free_ok h1
  obtain ⟨u1, u2, u3⟩ := CC.free_ok h2
  refine pe_imp (pe_listRg (cx.cold hcold).1 (cx.glob g1) (cx.blt _ g2) (prg_1 (cx.glob u1) (cx.blt _ u2) ha (star_cons hs)) rfl) ?_
  rintro σ H Q ⟨S, F0, H0, F, ρ, K, E, O, hw, hx, g⟩
  unfold wE wO at hw
  refine ⟨S, F0, H0, F, ρ, _, E, O, hw, hx, fun r1 ρ1 v1 F1 H1 O1 t1 q1 f1 hw1 => ?_⟩
  obtain ⟨n, e, hb, hk⟩ := hw1
  obtain ⟨w1, _⟩ := view_of O1 q1 f1.lv
  exact ⟨n, w1.asInt e, lrg_fin g O1 t1 hb hk⟩
theorem s_lrg2 (cx : Ctx C Γ X cc W) {a b : Expr} {va vb : VE} {p p2 pos pos2 : Pos} (hcold : cc.hot = false) (h1 : cc.free "list" = true) (h2 : cc.free "range" = true) (hs : isStar a = false) (hs2 : isStar b = false) (ha : PE X a (tE C Γ W va)) (hb : PE X b (tE C Γ W vb)) :
    PE X (.Call (.Name "list" p) [.Call (.Name "range" p2) [a, b] [] pos2] [] pos) (tE C Γ W (.lrg (.some va) vb)) := by
  obtain ⟨g1, g2, g3⟩ := CC.free_ok h1
  obtain ⟨u1, u2, u3⟩ := CC.free_ok h2
  refine pe_imp (pe_listRg (cx.cold hcold).1 (cx.glob g1) (cx.blt _ g2) (prg_2 (cx.glob u1) (cx.blt _ u2) ha hb (star_cons hs) (star_cons hs2) (by rw [back_any, star_cons hs2]; rfl)) rfl) ?_
  rintro σ H Q ⟨S, F0, H0, F, ρ, K, E, O, hw, hx, g⟩
  unfold wE wO at hw
  refine ⟨S, F0, H0, F, ρ, _, E, O, hw, hx, fun r1 ρ1 v1 F1 H1 O1 t1 q1 f1 hw1 => ?_⟩
  obtain ⟨i, e1, hw1⟩ := hw1
  obtain ⟨w1, _⟩ := view_of O1 q1 f1.lv
  refine ⟨S, F0, H0, F1, ρ1, _, E, O1, hw1, hx, fun r2 ρ2 v2 F2 H2 O2 t2 q2 f2 hw2 => ?_⟩
  obtain ⟨n, e, hb, hk⟩ := hw2
  obtain ⟨w2, _⟩ := view_of O2 q2 f2.lv
  exact ⟨i, n, w1.asInt e1, w2.asInt e, lrg_fin g O2 (t1.trans t2) hb hk⟩

/-! ### targets -/
section
variable {S : SG} {F0 H0 F H : Hp} {σ : L2.St} {ρ : En} {d : D} {v : V}
theorem get_lt {α : Type} {l : List α} {i : Nat} {x : α} (h : l[i]? = some x) : i < l.length := (List.getElem?_eq_some_iff.mp h).1
theorem OK.setVal (O : OK C S F0 H0 F H σ ρ) (i : Nat) (r : Rep C S F d v) : OK C S F0 H0 F H (σ.set i (some v)) (ρ.set i (.val d)) where
  sub := O.sub
  fr := O.fr
  p0 := O.p0
  f0 := O.f0
  fn := O.fn
  len := by rw [List.length_set, List.length_set]; exact O.len
  val := fun j d' h => by
    rcases get_set h with ⟨hj, z⟩ | ⟨hj, z⟩
    · cases z
      subst hj
      have hl : j < ρ.length := by simpa using get_lt h
      exact ⟨v, List.getElem?_set_self (by rw [← O.len]; exact hl), r⟩
    · obtain ⟨w, e, rw1⟩ := O.val j d' z
      exact ⟨w, by rw [List.getElem?_set_ne (Ne.symm hj)]; exact e, rw1⟩
  own := fun j d' h => by
    rcases get_set h with ⟨_, z⟩ | ⟨hj, z⟩
    · cases z
    · obtain ⟨a, e, k⟩ := O.own j d' z
      exact ⟨a, by rw [List.getElem?_set_ne (Ne.symm hj)]; exact e, k⟩
  dis := fun j k d' e' b h1 h2 s1 s2 => by
    rcases get_set h1 with ⟨_, z⟩ | ⟨hj, z⟩
    · cases z
    · rcases get_set h2 with ⟨_, z2⟩ | ⟨hk, z2⟩
      · cases z2
      · rw [List.getElem?_set_ne (Ne.symm hj)] at s1
        rw [List.getElem?_set_ne (Ne.symm hk)] at s2
        exact O.dis j k d' e' b z z2 s1 s2
  sto := O.sto
theorem OK.setTmp {a : Addr} {ds : List D} {vs : List V} (O : OK C S F0 H0 F H σ ρ) (i : Nat) (h0 : H0 a = none) (hp : a ≠ S.p) (hf : F a = none) (hn : NoSlot σ ρ a) (z : H a = some (.lst vs)) (r : Reps C S F ds vs) : OK C S F0 H0 F H (σ.set i (some (.ref a))) (ρ.set i (.own (.lst ds))) where
  sub := O.sub
  fr := O.fr
  p0 := O.p0
  f0 := O.f0
  fn := O.fn
  len := by rw [List.length_set, List.length_set]; exact O.len
  val := fun j d' h => by
    rcases get_set h with ⟨hj, z⟩ | ⟨hj, z⟩
    · cases z
    · obtain ⟨w, e, rw1⟩ := O.val j d' z
      exact ⟨w, by rw [List.getElem?_set_ne (Ne.symm hj)]; exact e, rw1⟩
  own := fun j d' h => by
    rcases get_set h with ⟨hj, z2⟩ | ⟨hj, z2⟩
    · cases z2
      subst hj
      have hl : j < ρ.length := by simpa using get_lt h
      exact ⟨a, List.getElem?_set_self (by rw [← O.len]; exact hl), h0, hf, hp, vs, z, r⟩
    · obtain ⟨b, e, k⟩ := O.own j d' z2
      exact ⟨b, by rw [List.getElem?_set_ne (Ne.symm hj)]; exact e, k⟩
  dis := fun j k d' e' b h1 h2 s1 s2 => by
    rcases get_set h1 with ⟨hj, z1⟩ | ⟨hj, z1⟩
    · rcases get_set h2 with ⟨hk, z2⟩ | ⟨hk, z2⟩
      · rw [hj, hk]
      · subst hj
        have hl : j < ρ.length := by simpa using get_lt h1
        rw [List.getElem?_set_self (by rw [← O.len]; exact hl)] at s1
        cases s1
        rw [List.getElem?_set_ne (Ne.symm hk)] at s2
        exact absurd s2 (hn k e' z2)
    · rcases get_set h2 with ⟨hk, z2⟩ | ⟨hk, z2⟩
      · subst hk
        have hl : k < ρ.length := by simpa using get_lt h2
        rw [List.getElem?_set_self (by rw [← O.len]; exact hl)] at s2
        cases s2
        rw [List.getElem?_set_ne (Ne.symm hj)] at s1
        exact absurd s1 (hn j d' z1)
      · rw [List.getElem?_set_ne (Ne.symm hj)] at s1
        rw [List.getElem?_set_ne (Ne.symm hk)] at s2
        exact O.dis j k d' e' b z1 z2 s1 s2
  sto := O.sto
/-- a result is stored in a slot -/
theorem OK.put {r : R} (O : OK C S F0 H0 F H σ ρ) (i : Nat) (q : RRep C S H0 F H σ ρ r v) (f : RFresh F ρ r v) : ∃ F', OK C S F0 H0 F' H (σ.set i (some v)) (VL.put i r ρ) ∧ Sub F F' := by
  cases r with
  | val d => exact ⟨F, O.setVal i q, Sub.refl F⟩
  | tmp d =>
    obtain ⟨a, e, h0, hp, n, k⟩ := q
    subst e
    cases d with
    | lst ds =>
      obtain ⟨vs, z, r⟩ := k
      exact ⟨F, O.setTmp i h0 hp (f a rfl) n z r, Sub.refl F⟩
    | _ => exact k.elim
  | var j d =>
    obtain ⟨F', O', t, r, _⟩ := freeze (P := True) O q f.lv
    exact ⟨F', O'.setVal i r, t.f⟩
end
/-- the reading of a target: which slots it may change -/
def tG (C : CT) (t : VG) : TG := fun v σ H Q => ∃ (S : SG) (F0 H0 F : Hp) (ρ : En) (r : R) (K : En → Prop), OK C S F0 H0 F H σ ρ ∧ RRep C S H0 F H σ ρ r v ∧ RFresh F ρ r v ∧ wG t r ρ K ∧
  ∀ σ' ρ' F', OK C S F0 H0 F' H σ' ρ' → Sub F F' → σ'.length = σ.length → (∀ j, j ∉ t.slots → σ'[j]? = σ[j]?) → (∀ d0, r = .val d0 → ∀ (j : Nat) d, ρ'[j]? = some (.own d) → ρ[j]? = some (.own d) ∧ σ'[j]? = σ[j]?) → K ρ' → Q σ' H
def tGs (C : CT) (t : VGs) : TGs := fun vs σ H Q => ∃ (S : SG) (F0 H0 F : Hp) (ρ : En) (ds : List D) (K : En → Prop), OK C S F0 H0 F H σ ρ ∧ Reps C S F ds vs ∧ wGs t ds ρ K ∧
  ∀ σ' ρ' F', OK C S F0 H0 F' H σ' ρ' → Sub F F' → σ'.length = σ.length → (∀ j, j ∉ t.slots → σ'[j]? = σ[j]?) → (∀ (j : Nat) d, ρ'[j]? = some (.own d) → ρ[j]? = some (.own d) ∧ σ'[j]? = σ[j]?) → K ρ' → Q σ' H
theorem pg_imp {e : Expr} {t t' : TG} (h : PG X e t) (i : ∀ v σ H Q, t' v σ H Q → t v σ H Q) : PG X e t' := ⟨fun pins s σ H v u Q I r q => h.run pins s σ H v u Q I r (i v σ H Q q)⟩
theorem pgs_imp {e : List Expr} {t t' : TGs} (h : PGs X e t) (i : ∀ v σ H Q, t' v σ H Q → t v σ H Q) : PGs X e t' := ⟨fun pins s σ H v u Q I r q => h.run pins s σ H v u Q I r (i v σ H Q q)⟩
theorem pg_bad {e : Expr} : PG X e (tG C .bad) := ⟨fun pins s σ H v u Q I r q => by
  obtain ⟨_, _, _, _, _, _, _, _, _, _, z, _⟩ := q
  unfold wG at z
  exact z.elim⟩
theorem asg_map {env : PySem.Env} : ∀ {es : List Expr}, noStars es = true → assignEach es env = es.map fun e => (false, assign e env)
  | [], _ => rfl
  | e :: es, h => by
    unfold noStars at h
    rw [List.all_cons, Bool.and_eq_true] at h
    have e1 : assignEach (e :: es) env = (false, assign e env) :: assignEach es env := by
      have h1 : isStar e = false := by simpa using h.1
      cases e <;> first | rfl | cases h1
    rw [e1, asg_map (es := es) h.2] <;> rfl
theorem gName_imp {i : Nat} (v : V) (σ : L2.St) (H : Hp) (Q : L2.St → Hp → Prop) (h : tG C (.nm i) v σ H Q) : gName i v σ H Q := by
  obtain ⟨S, F0, H0, F, ρ, r, K, O, q, f, hw, g⟩ := h
  unfold wG at hw
  obtain ⟨F', O', s⟩ := O.put i q f
  refine g _ _ F' O' s (by rw [List.length_set]) (fun j hj => ?_) (fun d0 hr j d hd => ?_) hw
  · have : i ≠ j := fun e => hj (by subst e; unfold VG.slots; simp)
    rw [List.getElem?_set_ne this]
  · subst hr
    rcases get_set (show (ρ.set i (.val d0))[j]? = some (.own d) from hd) with ⟨_, z⟩ | ⟨hj, z⟩
    · cases z
    · exact ⟨z, by rw [List.getElem?_set_ne (Ne.symm hj)]⟩
theorem s_gs {f : Expr → VG} (h : ∀ e, PG X e (tG C (f e))) : ∀ {es : List Expr}, noStars es = true → PGs X es (tGs C (mapG f es))
  | [], _ => by
    refine pgs_imp pgs_nil ?_
    rintro vs σ H Q ⟨S, F0, H0, F, ρ, ds, K, O, q, hw, g⟩
    unfold mapG at hw
    cases ds with
    | nil =>
      unfold wGs at hw
      exact ⟨q, g σ ρ F O (Sub.refl F) rfl (fun _ _ => rfl) (fun _ _ z => ⟨z, rfl⟩) hw⟩
    | cons d ds => unfold wGs at hw; exact hw.elim
  | e :: es, hs => by
    have hs' := hs
    unfold noStars at hs'
    rw [List.all_cons, Bool.and_eq_true] at hs'
    have hes : noStars es = true := hs'.2
    refine pgs_imp (pgs_cons (h e) (s_gs h hes) (by rw [asg_map hs, asg_map hes]; simp)) ?_
    rintro vs σ H Q ⟨S, F0, H0, F, ρ, ds, K, O, q, hw, g⟩
    unfold mapG at hw
    cases ds with
    | nil => unfold wGs at hw; exact hw.elim
    | cons d ds =>
      unfold wGs at hw
      unfold Reps at q
      obtain ⟨v, us, e1, r1, r2⟩ := q
      refine ⟨v, us, e1, S, F0, H0, F, ρ, .val d, _, O, r1, trivial, hw, fun σ1 ρ1 F1 O1 s1 l1 k1 w1 hk => ?_⟩
      refine ⟨S, F0, H0, F1, ρ1, ds, K, O1, r2.mono s1, hk, fun σ2 ρ2 F2 O2 s2 l2 k2 w2 hk2 => g σ2 ρ2 F2 O2 (s1.trans s2) (l2.trans l1) (fun j hj => ?_) (fun j d hd => ?_) hk2⟩
      rotate_left
      · obtain ⟨z1, z2⟩ := w2 j d hd
        obtain ⟨y1, y2⟩ := w1 _ rfl j d z1
        exact ⟨y1, z2.trans y2⟩
      have hj' : j ∉ (f e).slots ∧ j ∉ (mapG f es).slots := by
        constructor <;> (intro z; apply hj; show j ∈ (f e).slots ++ (mapG f es).slots; simp [z])
      rw [k2 j hj'.2, k1 j hj'.1]
theorem mapG_len {f : Expr → VG} : ∀ es : List Expr, (mapG f es).len = es.length
  | [] => rfl
  | e :: es => by
    show (mapG f es).len + 1 = _
    rw [mapG_len es, List.length_cons]
theorem s_g (cx : Ctx C Γ X cc W) : ∀ (n : Nat) (e : Expr), PG X e (tG C (cG n cc e))
  | 0, e => by unfold cG; exact pg_bad
  | n + 1, e => by
    cases e with
    | Name x pos =>
      unfold cG
      split
      · rename_i hp
        split
        · rename_i i hi
          have hl : Loc X.env.scope x ∧ (X.fn x = true ∨ X.env.scope.names.lookup x = some .local) := by
            unfold CC.put CC.kind at hp
            rw [cx.sc, cx.fn]
            split at hp
            · exact ⟨.inl ‹_›, .inr ‹_›⟩
            · exact ⟨.inr ‹_›, .inl hp⟩
            · cases hp
          exact pg_imp (pg_name cx.nd (cx.slot hi) hl.1 hl.2) gName_imp
        · exact pg_bad
      · exact pg_bad
    | Tuple es k pos =>
      unfold cG
      split
      · rename_i hs
        rw [Bool.and_eq_true, Bool.not_eq_true'] at hs
        have hcold := hs.1
        have hs' : noStars es = true := hs.2
        have hm := asg_map (env := X.env) hs'
        refine pg_imp (pg_tup (n := es.length) (cx.cold hcold).1 (s_gs (s_g cx n) hs') (by rw [hm, List.length_map]) (by rw [hm, List.findIdx?_eq_none_iff]; simp)) ?_
        rintro v σ H Q ⟨S, F0, H0, F, ρ, r, K, O, q, f, hw, g⟩
        unfold wG at hw
        split at hw
        · rename_i ds
          have q' : Rep C S F (.tup ds) v := q
          unfold Rep at q'
          obtain ⟨a, vs, e1, q1, r1⟩ := q'
          refine ⟨a, vs, e1, by rw [cx.K]; exact O.sub.sqT q1, ?_, S, F0, H0, F, ρ, ds, K, O, r1, hw, fun σ' ρ' F' O' s' l' k' w' hk => g σ' ρ' F' O' s' l' k' (fun _ _ => w') hk⟩
          rw [r1.len, (wGs_ex _ ds ρ K hw).2, mapG_len]
        · exact hw.elim
      · exact pg_bad
    | _ => unfold cG; exact pg_bad
end
end VL
set_option maxHeartbeats 4000000
/-! VLh: what is walked, comprehensions. -/
namespace VL
open PySem PySem.Spec PyProof.Rows L2
/-- J gives the data ds as long as the frozen part stands -/
structure WalkD (C : CT) (S : SG) (F : Hp) (J : It) (ds : List D) : Prop where
  go : ∀ i H, Sub F H → i < ds.length → J.go i H
  stop : ∀ H, Sub F H → J.stop ds.length H
  yld : ∀ i H x H' d, Sub F H → ds[i]? = some d → J.yld i H x H' → (H' = H ∧ Rep C S F d x) ∨ ∃ T vs es, x = .ref T ∧ H T = none ∧ H' = upd H T (.tup vs) ∧ d = .tup es ∧ Reps C S F es vs
def tI (C : CT) (Γ : Nat → VSp) (W : WP) (t : VI) : TI := fun σ H R => ∃ (S : SG) (F0 H0 F : Hp) (ρ : En) (K : List D → En → Prop) (E : VL.XK), OK C S F0 H0 F H σ ρ ∧ wI Γ t ρ K E ∧ XOK C S F0 H0 W E ∧
  ∀ ds ρ' J F' H', OK C S F0 H0 F' H' σ ρ' → Tr S ρ ρ' σ F H F' H' → WalkD C S F' J ds → K ds ρ' → R J H'
section
variable {C : CT} {S : SG} {F0 H0 F H : Hp} {σ : L2.St} {ρ : En}
theorem walk_lst {a : Addr} {vs : List V} {ds : List D} {K : PySem.W.Frag} (h : F a = some (.lst vs)) (r : Reps C S F ds vs) : WalkD C S F (Itl K a) ds where
  go := fun i H s hi => by
    have hl := r.len
    exact ⟨vs, vs[i]'(by omega), .of (s _ _ h), by simp⟩
  stop := fun H s => ⟨vs, .of (s _ _ h), by rw [r.len]; exact Nat.le_refl _⟩
  yld := fun i H x H' d s hd y => by
    obtain ⟨e, k⟩ := y
    obtain ⟨v, hv, rv⟩ := r.at hd
    have := k vs (.of (s _ _ h))
    rw [hv] at this
    cases this
    exact .inl ⟨e, rv⟩
theorem walk_tupD {a : Addr} {vs : List V} {ds : List D} {K : PySem.W.Frag} (hK : K = C.K) (h : SqT C.K F a vs) (r : Reps C S F ds vs) : WalkD C S F (Itt K a) ds where
  go := fun i H s hi => by
    have hl := r.len
    exact ⟨vs, vs[i]'(by omega), by rw [hK]; exact s.sqT h, by simp⟩
  stop := fun H s => ⟨vs, by rw [hK]; exact s.sqT h, by rw [r.len]; exact Nat.le_refl _⟩
  yld := fun i H x H' d s hd y => by
    obtain ⟨e, k⟩ := y
    obtain ⟨v, hv, rv⟩ := r.at hd
    have := k vs (by rw [hK]; exact s.sqT h)
    rw [hv] at this
    cases this
    exact .inl ⟨e, rv⟩
theorem walk_rng {lo hi : Int} : WalkD C S F (Itr lo (hi - lo).toNat) (rngD lo hi) where
  go := fun i H s hi => by
    unfold rngD at hi
    rw [List.length_map, List.length_range] at hi
    exact hi
  stop := fun H s => by
    show (hi - lo).toNat ≤ (rngD lo hi).length
    unfold rngD
    simp
  yld := fun i H x H' d s hd y => by
    obtain ⟨e, k⟩ := y
    unfold rngD at hd
    rw [List.getElem?_map] at hd
    have hi : i < (hi - lo).toNat := by
      cases q : (List.range (hi - lo).toNat)[i]? with
      | none => rw [q] at hd; cases hd
      | some j => simpa using (List.getElem?_eq_some_iff.mp q).1
    rw [List.getElem?_range hi] at hd
    cases hd
    subst k
    exact .inl ⟨e, rep_int⟩
theorem walk_strD {z : Str} : WalkD C S F (Its z) (z.cps.toList.map fun c => .str ⟨#[c]⟩) where
  go := fun i H s hi => by
    rw [List.length_map, Array.length_toList] at hi
    exact hi
  stop := fun H s => by
    show z.cps.size ≤ (z.cps.toList.map fun c => D.str ⟨#[c]⟩).length
    simp
  yld := fun i H x H' d s hd y => by
    obtain ⟨e, c, hc, k⟩ := y
    rw [List.getElem?_map, Array.getElem?_toList, hc] at hd
    cases hd
    subst k
    exact .inl ⟨e, rep_str⟩
theorem enumD_at : ∀ (ds : List D) (k i : Nat), (enumD k ds)[i]? = ds[i]?.map fun d => .tup [.int ((k + i : Nat) : Int), d]
  | [], k, i => by unfold enumD; simp
  | d :: ds, k, 0 => by unfold enumD; simp
  | d :: ds, k, i + 1 => by
    unfold enumD
    rw [List.getElem?_cons_succ, List.getElem?_cons_succ, enumD_at ds (k + 1) i]
    have : k + 1 + i = k + (i + 1) := by omega
    rw [this]
theorem enumD_len : ∀ (ds : List D) (k : Nat), (enumD k ds).length = ds.length
  | [], k => by unfold enumD; rfl
  | d :: ds, k => by
    unfold enumD
    rw [List.length_cons, List.length_cons, enumD_len ds (k + 1)]
theorem walk_enumD {a : Addr} {vs : List V} {ds : List D} {K : PySem.W.Frag} (h : F a = some (.lst vs)) (r : Reps C S F ds vs) : WalkD C S F (Ite K a) (enumD 0 ds) where
  go := fun i H s hi => by
    have hl := r.len
    rw [enumD_len] at hi
    exact ⟨vs, vs[i]'(by omega), .of (s _ _ h), by simp⟩
  stop := fun H s => ⟨vs, .of (s _ _ h), by rw [r.len, enumD_len]; exact Nat.le_refl _⟩
  yld := fun i H x H' d s hd y => by
    obtain ⟨T, x', e1, e2, e3, k⟩ := y
    rw [enumD_at] at hd
    cases q : ds[i]? with
    | none => rw [q] at hd; cases hd
    | some d' =>
      rw [q] at hd
      cases hd
      obtain ⟨v, hv, rv⟩ := r.at q
      have := k vs (.of (s _ _ h))
      rw [hv] at this
      cases this
      refine .inr ⟨T, _, _, e1, e2, e3, rfl, .cons ?_ (.cons rv .nil)⟩
      rw [Nat.zero_add]
      exact rep_int
theorem zipD_at : ∀ (xs ys : List D) (i : Nat) (d : D), (zipD xs ys)[i]? = some d → ∃ x y, xs[i]? = some x ∧ ys[i]? = some y ∧ d = .tup [x, y]
  | x :: xs, y :: ys, 0, d, h => by
    unfold zipD at h
    have : D.tup [x, y] = d := by simpa using h
    exact ⟨x, y, by simp, by simp, this.symm⟩
  | x :: xs, y :: ys, i + 1, d, h => by
    unfold zipD at h
    obtain ⟨a, b, e1, e2, e3⟩ := zipD_at xs ys i d (by simpa using h)
    exact ⟨a, b, by simpa using e1, by simpa using e2, e3⟩
  | [], _, _, _, h => by unfold zipD at h; simp at h
  | _ :: _, [], _, _, h => by unfold zipD at h; simp at h
theorem zipD_len : ∀ (xs ys : List D), (zipD xs ys).length = min xs.length ys.length
  | x :: xs, y :: ys => by
    unfold zipD
    rw [List.length_cons, List.length_cons, List.length_cons, zipD_len xs ys]
    omega
  | [], _ => by unfold zipD; simp
  | _ :: _, [] => by unfold zipD; simp
theorem walk_zipD {a b : Addr} {vs us : List V} {ds es : List D} {K : PySem.W.Frag} (h : F a = some (.lst vs)) (r : Reps C S F ds vs) (h2 : F b = some (.lst us)) (r2 : Reps C S F es us) : WalkD C S F (Itz K a b) (zipD ds es) where
  go := fun i H s hi => by
    have hl := r.len
    have hl2 := r2.len
    rw [zipD_len] at hi
    exact ⟨vs, us, vs[i]'(by omega), us[i]'(by omega), .of (s _ _ h), .of (s _ _ h2), by simp, by simp⟩
  stop := fun H s => ⟨vs, us, .of (s _ _ h), .of (s _ _ h2), by rw [r.len, r2.len, zipD_len]; omega⟩
  yld := fun i H x H' d s hd y => by
    obtain ⟨T, x', y', e1, e2, e3, k, k2⟩ := y
    obtain ⟨p, q, hp, hq, rfl⟩ := zipD_at ds es i d hd
    obtain ⟨v, hv, rv⟩ := r.at hp
    obtain ⟨u, hu, ru⟩ := r2.at hq
    have := k vs (.of (s _ _ h))
    rw [hv] at this
    cases this
    have := k2 us (.of (s _ _ h2))
    rw [hu] at this
    cases this
    exact .inr ⟨T, _, _, e1, e2, e3, rfl, .cons rv (.cons ru .nil)⟩
end
section
variable {C : CT} {Γ : Nat → VSp} {X : Cx} {cc : CC} {W : WP}
theorem pi_imp {tg it : Expr} {t t' : TI} (h : PI X tg it t) (i : ∀ σ H R, t' σ H R → t σ H R) : PI X tg it t' := ⟨fun pins s σ H R I q => h.run pins s σ H R I (i σ H R q)⟩
/-- whatever is walked: a list, a tuple, a text -/
def iAny (K : PySem.W.Frag) (te : TE) : TI := fun σ H R => te σ H fun x H1 => (∃ a, x = .ref a ∧ (∃ xs, SqL K H1 a xs) ∧ R (Itl K a) H1) ∨ (∃ a, x = .ref a ∧ (∃ xs, SqT K H1 a xs) ∧ R (Itt K a) H1) ∨ ∃ z, x = .str z ∧ R (Its z) H1
theorem pi_any {tg l : Expr} {tl : TE} (hl : PE X l tl) : PI X tg l (iAny X.K tl) := by
  refine ⟨fun pins s σ H R I h => ?_⟩
  refine thn (hl.run pins s σ H _ I h) fun v s1 ⟨x, H1, I1, r1, q1⟩ => ?_
  rcases q1 with ⟨a, e, ⟨xs, hq⟩, q⟩ | ⟨a, e, ⟨xs, hq⟩, q⟩ | ⟨z, e, q⟩
  · subst e
    cases r1
    obtain ⟨its, rv, p, hz⟩ := I1.list hq
    refine wpAny_pyIter_list p.isList ?_
    refine ⟨s1.heap.objs.size, [s1.heap.objs.size], _, _, H1, rfl, I1.kept (t' := s1.toks) fun b o e => Heap.get?_push_of_some _ e, turn_list a _, ⟨_, Heap.get?_push_size _ rfl, rfl, rfl⟩, fun b hb => ?_, q⟩
    have e : b = s1.heap.objs.size := by simpa using hb
    subst e
    exact I1.fpOk (Nat.le_refl _) (I1.hok.fresh (Nat.le_refl _))
  · subst e
    cases r1
    obtain ⟨its, rv, p, hz⟩ := I1.tuple hq
    refine wpAny_pyIter_tuple (show s1.heap.IsTuple a its.toArray from p) ?_
    refine ⟨s1.heap.objs.size, [s1.heap.objs.size], _, _, H1, rfl, I1.kept (t' := s1.toks) fun b o e => Heap.get?_push_of_some _ e, turn_tuple a _, ⟨_, Heap.get?_push_size _ rfl, rfl, rfl⟩, fun b hb => ?_, q⟩
    have e : b = s1.heap.objs.size := by simpa using hb
    subst e
    exact I1.fpOk (Nat.le_refl _) (I1.hok.fresh (Nat.le_refl _))
  · subst e
    obtain ⟨t, rfl⟩ := r1
    cases ha : z.cps.all (· < 128)
    · exact wpAny_pyIter_wide ha (pi_one (tk := s1.toks) I1 _ (turn_str _ z t "str_iterator" (.inr rfl)) ⟨_, Heap.get?_push_size _ rfl, rfl, rfl⟩ q)
    · exact wpAny_pyIter_ascii ha (pi_one (tk := s1.toks) I1 _ (turn_str _ z t "str_ascii_iterator" (.inl rfl)) ⟨_, Heap.get?_push_size _ rfl, rfl, rfl⟩ q)
theorem s_it (cx : Ctx C Γ X cc W) {tg e : Expr} {va : VE} (h : PE X e (tE C Γ W va)) : PI X tg e (tI C Γ W (.it va)) := by
  refine pi_imp (pi_any h) ?_
  rintro σ H R ⟨S, F0, H0, F, ρ, K, E, O, hw, hx, g⟩
  unfold wI at hw
  refine ⟨S, F0, H0, F, ρ, _, E, O, hw, hx, fun r1 ρ1 v1 F1 H1 O1 t1 q1 f1 hw1 => ?_⟩
  obtain ⟨F2, O2, t2, rv, _⟩ := freeze (P := True) O1 q1 f1.lv
  have hw1 : vIter r1 ρ1 K := hw1
  unfold vIter at hw1
  split at hw1
  · rename_i ds hd
    rw [hd] at rv
    unfold Rep at rv
    obtain ⟨a, vs, e, q, r⟩ := rv
    exact .inl ⟨a, e, ⟨vs, .of (O2.sub _ _ q)⟩, g ds _ _ F2 H1 O2 (t1.trans t2) (walk_lst q r) hw1⟩
  · rename_i ds hd
    rw [hd] at rv
    unfold Rep at rv
    obtain ⟨a, vs, e, q, r⟩ := rv
    exact .inr (.inl ⟨a, e, ⟨vs, by rw [cx.K]; exact O2.sub.sqT q⟩, g ds _ _ F2 H1 O2 (t1.trans t2) (walk_tupD cx.K q r) hw1⟩)
  · rename_i z hd
    rw [hd] at rv
    unfold Rep at rv
    exact .inr (.inr ⟨z, rv, g _ ρ1 _ F1 H1 O1 t1 walk_strD hw1⟩)
  · exact hw1.elim
theorem pi_bad {tg e : Expr} : PI X tg e (tI C Γ W (.it .bad)) := ⟨fun pins s σ H R I q => by
  obtain ⟨_, _, _, _, _, _, _, _, z, _⟩ := q
  unfold wI wE at z
  exact z.elim⟩
theorem vRng1 {d : D} {K : List D → Prop} (h : vRng [d] K) : ∃ n, d = .int n ∧ (-(2 ^ 62) ≤ n ∧ n < 2 ^ 62) ∧ K (rngD 0 n) := by
  cases d <;> first | exact ⟨_, rfl, h⟩ | exact h.elim
theorem vRng2 {d e : D} {K : List D → Prop} (h : vRng [d, e] K) : ∃ m n, d = .int m ∧ e = .int n ∧ (-(2 ^ 62) ≤ m ∧ m < 2 ^ 62 ∧ -(2 ^ 62) ≤ n ∧ n < 2 ^ 62) ∧ K (rngD m n) := by
  cases d <;> cases e <;> first | exact ⟨_, _, rfl, rfl, h⟩ | exact h.elim
theorem s_rng1 (cx : Ctx C Γ X cc W) {tg a : Expr} {va : VE} {p pos : Pos} (h : cc.free "range" = true) (hs : isStar a = false) (ha : PE X a (tE C Γ W va)) : PI X tg (.Call (.Name "range" p) [a] [] pos) (tI C Γ W (.rng (.cons va .nil))) := by
  obtain ⟨g1, g2, g3⟩ := CC.free_ok h
  refine pi_imp (pi_range1 (cx.glob g1) (cx.blt _ g2) (pa_cons ha pa_nil (star_cons hs)) (star_cons hs)) ?_
  rintro σ H R ⟨S, F0, H0, F, ρ, K, E, O, hw, hx, g⟩
  unfold wI wEs wEs at hw
  refine ⟨S, F0, H0, F, ρ, _, E, O, hw, hx, fun r1 ρ1 v1 F1 H1 O1 t1 q1 f1 hw1 => ?_⟩
  obtain ⟨w1, _⟩ := view_of O1 q1 f1.lv
  obtain ⟨n, e, ⟨b1, b2⟩, hk⟩ := vRng1 hw1
  refine ⟨n, by rw [w1.asInt e], b1, b2, ?_⟩
  have wk := walk_rng (C := C) (S := S) (F := F1) (lo := 0) (hi := n)
  rw [Int.sub_zero] at wk
  exact g _ ρ1 _ F1 H1 O1 t1 wk hk
theorem s_rng2 (cx : Ctx C Γ X cc W) {tg a b : Expr} {va vb : VE} {p pos : Pos} (h : cc.free "range" = true) (hs : isStar a = false) (hs2 : isStar b = false) (ha : PE X a (tE C Γ W va)) (hb : PE X b (tE C Γ W vb)) :
    PI X tg (.Call (.Name "range" p) [a, b] [] pos) (tI C Γ W (.rng (.cons va (.cons vb .nil)))) := by
  obtain ⟨g1, g2, g3⟩ := CC.free_ok h
  have e2 : starEach [b] X.env = [(false, eval b X.env)] := star_cons hs2
  have e1 : starEach [a, b] X.env = [(false, eval a X.env), (false, eval b X.env)] := by rw [star_cons hs, e2]
  refine pi_imp (pi_range2 (cx.glob g1) (cx.blt _ g2) (pa_cons ha (pa_cons hb pa_nil (star_cons hs2)) (star_cons hs)) e1 e2) ?_
  rintro σ H R ⟨S, F0, H0, F, ρ, K, E, O, hw, hx, g⟩
  unfold wI wEs wEs wEs at hw
  refine ⟨S, F0, H0, F, ρ, _, E, O, hw, hx, fun r1 ρ1 v1 F1 H1 O1 t1 q1 f1 hw1 => ⟨S, F0, H0, F1, ρ1, _, E, O1, hw1, hx, fun r2 ρ2 v2 F2 H2 O2 t2 q2 f2 hw2 => ?_⟩⟩
  obtain ⟨w2, _⟩ := view_of O2 q2 f2.lv
  obtain ⟨m, n, em, en, bb, hk⟩ := vRng2 hw2
  have w1 : v1 = .int m := by
    cases r1 with
    | val d =>
      have q1' : Rep C S F1 d v1 := q1
      cases (show d = .int m from em)
      unfold Rep at q1'
      exact q1'
    | tmp d =>
      obtain ⟨a, _, _, _, _, k⟩ := q1
      cases (show d = .int m from em)
      exact k.elim
    | var i d =>
      obtain ⟨a, _, _, _, _, k⟩ := O1.own i d f1
      cases (show d = .int m from em)
      exact k.elim
  exact ⟨m, n, by rw [w1, w2.asInt en], bb, g _ ρ2 _ F2 H2 O2 (t1.trans t2) walk_rng hk⟩
theorem s_enum (cx : Ctx C Γ X cc W) {a : Expr} {es : List Expr} {k : Nat} {p pos tp : Pos} {va : VE} (h : cc.free "enumerate" = true) (hs : isStar a = false) (ha : PE X a (tE C Γ W va)) :
    PI X (.Tuple es k tp) (.Call (.Name "enumerate" p) [a] [] pos) (tI C Γ W (.enum va)) := by
  obtain ⟨g1, g2, g3⟩ := CC.free_ok h
  refine pi_imp (pi_enum (cx.glob g1) (cx.blt _ g2) (pa_cons ha pa_nil (star_cons hs)) (star_cons hs)) ?_
  rintro σ H R ⟨S, F0, H0, F, ρ, K, E, O, hw, hx, g⟩
  unfold wI at hw
  refine ⟨S, F0, H0, F, ρ, _, E, O, hw, hx, fun r1 ρ1 v1 F1 H1 O1 t1 q1 f1 hw1 => ?_⟩
  obtain ⟨F2, O2, t2, rv, _⟩ := freeze (P := True) O1 q1 f1.lv
  have hd : ∃ ds, r1.d = .lst ds ∧ K (enumD 0 ds) (r1.fz ρ1) := by
    have hw1 : vEnum r1 ρ1 K := hw1
    unfold vEnum at hw1
    cases hr : r1.d <;> rw [hr] at hw1 <;> first | exact ⟨_, rfl, hw1⟩ | exact hw1.elim
  obtain ⟨ds, hd, hk⟩ := hd
  rw [hd] at rv
  unfold Rep at rv
  obtain ⟨b, vs, e, q, r⟩ := rv
  exact ⟨b, vs, by rw [e], .of (O2.sub _ _ q), g _ _ _ F2 H1 O2 (t1.trans t2) (walk_enumD q r) hk⟩
theorem s_zip (cx : Ctx C Γ X cc W) {a b : Expr} {es : List Expr} {k : Nat} {p pos tp : Pos} {va vb : VE} (h : cc.free "zip" = true) (hs : isStar a = false) (hs2 : isStar b = false) (ha : PE X a (tE C Γ W va)) (hb : PE X b (tE C Γ W vb)) :
    PI X (.Tuple es k tp) (.Call (.Name "zip" p) [a, b] [] pos) (tI C Γ W (.zip va vb)) := by
  obtain ⟨g1, g2, g3⟩ := CC.free_ok h
  refine pi_imp (pi_zip (cx.glob g1) (cx.blt _ g2) (pa_cons ha (pa_cons hb pa_nil (star_cons hs2)) (star_cons hs)) (star_cons hs) (by rw [back_any, star_cons hs2]; rfl)) ?_
  rintro σ H R ⟨S, F0, H0, F, ρ, K, E, O, hw, hx, g⟩
  unfold wI at hw
  refine ⟨S, F0, H0, F, ρ, _, E, O, hw, hx, fun r1 ρ1 v1 F1 H1 O1 t1 q1 f1 hw1 => ⟨S, F0, H0, F1, ρ1, _, E, O1, hw1, hx, fun r2 ρ2 v2 F2 H2 O2 t2 q2 f2 hw2 => ?_⟩⟩
  obtain ⟨l1, hw2⟩ := lv_iff.mp hw2
  obtain ⟨F3, O3, t3, rv1, _⟩ := freeze (P := True) O2 (q1.tr t2) l1
  obtain ⟨F4, O4, t4, rv2, _⟩ := freeze (P := True) O3 (q2.tr t3) (lv_fz l1 f2.lv)
  have hd : ∃ ds es, r1.d = .lst ds ∧ r2.d = .lst es ∧ K (zipD ds es) (r2.fz (r1.fz ρ2)) := by
    have hw2 : vZip r1 r2 ρ2 K := hw2
    unfold vZip at hw2
    cases hr : r1.d <;> cases hr2 : r2.d <;> rw [hr, hr2] at hw2 <;> first | exact ⟨_, _, rfl, rfl, hw2⟩ | exact hw2.elim
  obtain ⟨ds, es, hd, he, hk⟩ := hd
  rw [hd] at rv1
  rw [he] at rv2
  unfold Rep at rv1 rv2
  obtain ⟨b1, vs, e1, z1, r1'⟩ := rv1
  obtain ⟨b2, us, e2, z2, r2'⟩ := rv2
  exact ⟨b1, b2, vs, us, by rw [e1, e2], .of (O3.sub _ _ z1), .of (O4.sub _ _ z2), g _ _ _ F4 H2 O4 (((t1.trans t2).trans t3).trans t4) (walk_zipD (t4.f _ _ z1) (r1'.mono t4.f) z2 r2') hk⟩

/-! ### comprehensions -/
section
variable {S : SG} {F0 H0 F H F1 H1 F' H' : Hp} {σ : L2.St} {ρ ρ1 ρ' : En} {a : Addr}
/-- the new list counts as something old -/
theorem OK.rebase (O : OK C S F0 H0 F H σ ρ) {u : HO} (h : H a = some u) (h0 : H0 a = none) (hf : F a = none) (hn : NoSlot σ ρ a) (hp : a ≠ S.p) : OK C S F0 (upd H0 a u) F H σ ρ where
  sub := O.sub
  fr := fun b o hb e => by
    by_cases hx : b = a
    · subst hx; rw [upd_same] at e; rw [← e]; exact h
    · rw [upd_ne hx] at e; exact O.fr b o hb e
  p0 := by rw [upd_ne (Ne.symm hp)]; exact O.p0
  f0 := O.f0
  fn := fun b o e => by
    have hx : b ≠ a := fun z => by subst z; rw [hf] at e; cases e
    rw [upd_ne hx]
    exact O.fn b o e
  len := O.len
  val := O.val
  own := fun i d e => by
    obtain ⟨b, e1, k0, k⟩ := O.own i d e
    have hx : b ≠ a := fun z => by subst z; exact hn i d e e1
    exact ⟨b, e1, by rw [upd_ne hx]; exact k0, k⟩
  dis := O.dis
  sto := O.sto
theorem OK.unbase {u : HO} (O : OK C S F0 (upd H0 a u) F H σ ρ) (h0 : H0 a = none) (hf0 : F0 a = none) (hp : a ≠ S.p) : OK C S F0 H0 F H σ ρ ∧ F a = none ∧ H a = some u ∧ NoSlot σ ρ a := by
  have up : ∀ b, upd H0 a u b = none → H0 b = none := fun b e => by
    by_cases hx : b = a
    · subst hx; exact h0
    · rw [upd_ne hx] at e; exact e
  refine ⟨⟨O.sub, fun b o hb e => O.fr b o hb (Sub.upd h0 b o e), fun e => O.p0 (by rw [upd_ne (Ne.symm hp)]; exact e), O.f0, fun b o e => ?_, O.len, O.val, fun i d e => ?_, O.dis, O.sto⟩, ?_, O.fr a u hp upd_same, fun i d e q => ?_⟩
  · rcases O.fn b o e with z | z
    · exact .inl z
    · exact .inr (up b z)
  · obtain ⟨b, e1, k0, k⟩ := O.own i d e
    exact ⟨b, e1, up b k0, k⟩
  · cases q : F a with
    | none => rfl
    | some o =>
      rcases O.fn a o q with z | z
      · rw [hf0] at z; cases z
      · rw [upd_same] at z; cases z
  · obtain ⟨b, e1, k0, k⟩ := O.own i d e
    rw [q] at e1
    cases e1
    rw [upd_same] at k0
    cases k0
theorem OK.updFree (O : OK C S F0 H0 F H σ ρ) {u : HO} (h0 : H0 a = none) (hf : F a = none) (hn : NoSlot σ ρ a) (hp : a ≠ S.p) : OK C S F0 H0 F (upd H a u) σ ρ where
  sub := fun b o e => by
    have hx : b ≠ a := fun z => by subst z; rw [hf] at e; cases e
    rw [upd_ne hx]; exact O.sub b o e
  fr := fun b o hb e => by
    have hx : b ≠ a := fun z => by subst z; rw [h0] at e; cases e
    rw [upd_ne hx]; exact O.fr b o hb e
  p0 := O.p0
  f0 := O.f0
  fn := O.fn
  len := O.len
  val := O.val
  own := fun i d e => by
    obtain ⟨b, e1, k0, k1, k2, k⟩ := O.own i d e
    have hx : b ≠ a := fun z => by subst z; exact hn i d e e1
    refine ⟨b, e1, k0, k1, k2, ?_⟩
    cases d with
    | lst ds =>
      obtain ⟨vs, z, r⟩ := k
      exact ⟨vs, by rw [upd_ne hx]; exact z, r⟩
    | _ => exact k.elim
  dis := O.dis
  sto := by
    obtain ⟨x, y, l, t, s, z, b⟩ := O.sto.st
    exact ⟨O.sto.cells, O.sto.free, O.sto.len, x, y, l, t, s, by rw [upd_ne (Ne.symm hp)]; exact z, b⟩
theorem OK.none1 (O : OK C S F0 H0 F H σ ρ) (i : Nat) : OK C S F0 H0 F H (σ.set i none) (ρ.set i .un) where
  sub := O.sub
  fr := O.fr
  p0 := O.p0
  f0 := O.f0
  fn := O.fn
  len := by rw [List.length_set, List.length_set]; exact O.len
  val := fun j d' h => by
    rcases get_set h with ⟨hj, z⟩ | ⟨hj, z⟩
    · cases z
    · obtain ⟨w, e, rw1⟩ := O.val j d' z
      exact ⟨w, by rw [List.getElem?_set_ne (Ne.symm hj)]; exact e, rw1⟩
  own := fun j d' h => by
    rcases get_set h with ⟨_, z⟩ | ⟨hj, z⟩
    · cases z
    · obtain ⟨a, e, k⟩ := O.own j d' z
      exact ⟨a, by rw [List.getElem?_set_ne (Ne.symm hj)]; exact e, k⟩
  dis := fun j k d' e' b h1 h2 s1 s2 => by
    rcases get_set h1 with ⟨_, z⟩ | ⟨hj, z⟩
    · cases z
    · rcases get_set h2 with ⟨_, z2⟩ | ⟨hk, z2⟩
      · cases z2
      · rw [List.getElem?_set_ne (Ne.symm hj)] at s1
        rw [List.getElem?_set_ne (Ne.symm hk)] at s2
        exact O.dis j k d' e' b z z2 s1 s2
  sto := O.sto
theorem OK.wipe (O : OK C S F0 H0 F H σ ρ) : ∀ is : List Nat, OK C S F0 H0 F H (L2.wipe σ is) (wipeV is ρ)
  | [] => O
  | i :: is => (OK.wipe O is).none1 i
theorem wipeV_own {d : D} : ∀ {is : List Nat} {i : Nat}, (wipeV is ρ)[i]? = some (.own d) → ρ[i]? = some (.own d) ∧ i ∉ is
  | [], i, h => ⟨h, by simp⟩
  | j :: is, i, h => by
    rcases get_set h with ⟨_, z⟩ | ⟨hj, z⟩
    · cases z
    · obtain ⟨a, b⟩ := wipeV_own z
      exact ⟨a, by simp only [List.mem_cons, not_or]; exact ⟨hj, b⟩⟩
theorem noOwn_iff {P : Prop} : ∀ {is : List Nat}, noOwn is ρ P → (∀ i ∈ is, ∀ d, ρ[i]? ≠ some (.own d)) ∧ P
  | [], h => ⟨fun _ z => (nomatch z), h⟩
  | i :: is, h => by
    unfold noOwn at h
    split at h
    · exact h.elim
    · rename_i hn
      obtain ⟨a, p⟩ := noOwn_iff h
      exact ⟨fun j hj d => by
        rcases List.mem_cons.mp hj with e | hj
        · subst e; exact hn d
        · exact a j hj d, p⟩
theorem backV_get {s : VL.Slot} (hl : ρ1.length = ρ.length) : ∀ {is : List Nat} {j : Nat}, (backV ρ1 is ρ)[j]? = some s → (j ∈ is ∧ ρ1[j]? = some s) ∨ (j ∉ is ∧ ρ[j]? = some s)
  | [], j, h => .inr ⟨by simp, h⟩
  | i :: is, j, h => by
    unfold backV at h
    split at h
    · rename_i s0 hs
      rcases get_set h with ⟨hj, z⟩ | ⟨hj, z⟩
      · subst hj; subst z
        exact .inl ⟨by simp, hs⟩
      · rcases backV_get hl z with ⟨a, b⟩ | ⟨a, b⟩
        · exact .inl ⟨List.mem_cons_of_mem _ a, b⟩
        · exact .inr ⟨by simp only [List.mem_cons, not_or]; exact ⟨hj, a⟩, b⟩
    · rename_i hs
      rcases backV_get hl h with ⟨a, b⟩ | ⟨a, b⟩
      · exact .inl ⟨List.mem_cons_of_mem _ a, b⟩
      · refine .inr ⟨?_, b⟩
        simp only [List.mem_cons, not_or]
        refine ⟨fun e => ?_, a⟩
        subst e
        have h1 := List.getElem?_eq_none_iff.mp hs
        have h2 := get_lt b
        omega
theorem backV_len : ∀ {is : List Nat}, (backV ρ1 is ρ).length = ρ.length
  | [] => rfl
  | i :: is => by
    unfold backV
    split
    · rw [List.length_set, backV_len]
    · exact backV_len
theorem wipe_get {is : List Nat} {i : Nat} (h : i ∉ is) : (L2.wipe σ is)[i]? = σ[i]? := wipe_out h
theorem wipeV_len : ∀ {is : List Nat}, (wipeV is ρ).length = ρ.length
  | [] => rfl
  | i :: is => by
    unfold wipeV
    rw [List.length_set, wipeV_len]
/-- behind a comprehension -/
theorem OK.back {own : List Nat} (O1 : OK C S F0 H0 F1 H1 σ ρ1) (hn : ∀ i ∈ own, ∀ d, ρ1[i]? ≠ some (.own d)) (O' : OK C S F0 H0 F' H' (L2.wipe σ own) ρ') (s : Sub F1 F') : OK C S F0 H0 F' H' σ (backV ρ1 own ρ') where
  sub := O'.sub
  fr := O'.fr
  p0 := O'.p0
  f0 := O'.f0
  fn := O'.fn
  len := by rw [backV_len, O'.len, wipe_length]
  val := fun j d h => by
    have hl : ρ1.length = ρ'.length := by rw [O1.len, O'.len, wipe_length]
    rcases backV_get hl h with ⟨a, b⟩ | ⟨a, b⟩
    · obtain ⟨v, e, r⟩ := O1.val j d b
      exact ⟨v, e, r.mono s⟩
    · obtain ⟨v, e, r⟩ := O'.val j d b
      rw [wipe_get a] at e
      exact ⟨v, e, r⟩
  own := fun j d h => by
    have hl : ρ1.length = ρ'.length := by rw [O1.len, O'.len, wipe_length]
    rcases backV_get hl h with ⟨a, b⟩ | ⟨a, b⟩
    · exact absurd b (hn j a d)
    · obtain ⟨v, e, r⟩ := O'.own j d b
      rw [wipe_get a] at e
      exact ⟨v, e, r⟩
  dis := fun j k d e b h1 h2 s1 s2 => by
    have hl : ρ1.length = ρ'.length := by rw [O1.len, O'.len, wipe_length]
    rcases backV_get hl h1 with ⟨a1, b1⟩ | ⟨a1, b1⟩
    · exact absurd b1 (hn j a1 d)
    · rcases backV_get hl h2 with ⟨a2, b2⟩ | ⟨a2, b2⟩
      · exact absurd b2 (hn k a2 e)
      · exact O'.dis j k d e b b1 b2 (by rw [wipe_get a1]; exact s1) (by rw [wipe_get a2]; exact s2)
  sto := O'.sto
/-- how the turns have gone so far -/
structure Go (S : SG) (own : List Nat) (σ : L2.St) (ρ1 ρ' : En) (F1 H1 F' H' : Hp) : Prop where
  f : Sub F1 F'
  dom : ∀ a, H1 a ≠ none → H' a ≠ none
  keep : ∀ a o, H1 a = some o → a ≠ S.p → NoSlot σ ρ1 a → H' a = some o
  owns : ∀ (i : Nat) d, ρ'[i]? = some (.own d) → i ∉ own ∧ ∃ e, ρ1[i]? = some (.own e)
theorem Go.tr {own : List Nat} (hl : ρ1.length = ρ'.length) (hn : ∀ i ∈ own, ∀ d, ρ1[i]? ≠ some (.own d)) (g : Go S own σ ρ1 ρ' F1 H1 F' H') : Tr S ρ1 (backV ρ1 own ρ') σ F1 H1 F' H' where
  f := g.f
  dom := g.dom
  keep := g.keep
  owns := fun i d h => by
    rcases backV_get hl h with ⟨a, b⟩ | ⟨a, b⟩
    · exact absurd b (hn i a d)
    · exact (g.owns i d b).2
/-- one more step at the slots σ2 -/
theorem Go.step {own : List Nat} {σ2 : L2.St} {ρ2 ρ3 : En} {F2 H2 F3 H3 : Hp} (g : Go S own σ ρ1 ρ2 F1 H1 F2 H2) (hs : ∀ (i : Nat) d, ρ2[i]? = some (.own d) → σ2[i]? = σ[i]?) (t : Tr S ρ2 ρ3 σ2 F2 H2 F3 H3) : Go S own σ ρ1 ρ3 F1 H1 F3 H3 where
  f := g.f.trans t.f
  dom := fun a h => t.dom a (g.dom a h)
  keep := fun a o h hp n => t.keep a o (g.keep a o h hp n) hp fun i d e q => by
    obtain ⟨hi, e', hh⟩ := g.owns i d e
    rw [hs i d e] at q
    exact n i e' hh q
  owns := fun i d e => by
    obtain ⟨d', e'⟩ := t.owns i d e
    exact g.owns i d' e'
end
end
end VL
set_option maxHeartbeats 4000000
/-! VLi: comprehensions. -/
namespace VL
open PySem PySem.Spec PyProof.Rows L2
theorem wipe_in {σ : L2.St} : ∀ {is : List Nat} {j : Nat}, j ∈ is → (L2.wipe σ is)[j]? = if j < σ.length then some none else none
  | i :: is, j, h => by
    unfold L2.wipe
    by_cases e : i = j
    · subst e
      by_cases hl : i < σ.length
      · rw [List.getElem?_set_self (by rw [wipe_length]; exact hl), if_pos hl]
      · rw [if_neg hl]
        exact List.getElem?_eq_none (by rw [List.length_set, wipe_length]; omega)
    · rw [List.getElem?_set_ne e]
      rcases List.mem_cons.mp h with z | z
      · exact absurd z.symm e
      · exact wipe_in z
theorem wipe_congr {σ σ2 : L2.St} {is : List Nat} (hl : σ2.length = σ.length) (h : ∀ j, j ∉ is → σ2[j]? = σ[j]?) : L2.wipe σ2 is = L2.wipe σ is := by
  apply List.ext_getElem?
  intro j
  by_cases hj : j ∈ is
  · rw [wipe_in hj, wipe_in hj, hl]
  · rw [wipe_get hj, wipe_get hj, h j hj]
section
variable {C : CT} {Γ : Nat → VSp} {X : Cx} {cc : CC} {W : WP}
abbrev X0 : VL.XK := fun _ _ => False
/-- a comprehension's turn -/
def cstep (Γ : Nat → VSp) (elt : VE) (g : VG) (ifs : VC) : D → En → EK → (En → Prop) → Prop := fun d ρ2 Ka Ks => wG g (.val d) ρ2 fun ρ3 => wC Γ ifs ρ3 (fun c ρ4 => (c = true → wE Γ elt ρ4 Ka X0) ∧ (c = false → Ks ρ4)) X0
structure CState (C : CT) (Γ : Nat → VSp) (S : SG) (F0 H0 : Hp) (own : List Nat) (σ : L2.St) (ρ1 : En) (F1 H1 : Hp) (D : Addr) (elt : VE) (g : VG) (ifs : VC) (ds : List VL.D) (K : List VL.D → En → Prop) (i : Nat) (H : Hp) (F' : Hp) (ρ' : En) (acc : List VL.D) (vs : List V) : Prop where
  ok : OK C S F0 H0 F' H (L2.wipe σ own) ρ'
  go : Go S own σ ρ1 ρ' F1 H1 F' H
  fD : F' D = none
  nD : NoSlot (L2.wipe σ own) ρ' D
  zD : H D = some (.lst vs)
  rA : Reps C S F' acc vs
  c : compL own (cstep Γ elt g ifs) (ds.drop i) acc ρ' K
theorem lc_imp {own : List Nat} {elt : VE} {g : VG} {it : VI} {ifs : VC} (hsub : ∀ j ∈ g.slots, j ∈ own) (σ : L2.St) (H : Hp) (Q : VK) (h : tE C Γ W (.comp own elt g it ifs) σ H Q) :
    tLc (tI C Γ W it) (tG C g) (tCo C Γ W.no ifs) (tE C Γ W.no elt) own σ H Q := by
  obtain ⟨S, F0, H0, F, ρ, K, E, O, hw, hx, gg⟩ := h
  unfold wE at hw
  refine ⟨S, F0, H0, F, ρ, _, E, O, hw, hx, fun ds ρ1 J F1 H1 O1 t1 wk hk => ?_⟩
  obtain ⟨hno, hk⟩ := noOwn_iff hk
  have hk : compL own (cstep Γ elt g ifs) ds [] (wipeV own ρ1) (fun acc ρ5 => K (.tmp (.lst acc)) (backV ρ1 own ρ5)) := hk
  intro D hD
  obtain ⟨n0, np, nF⟩ := O1.new hD
  have nF0 : F0 D = none := by
    cases q : F0 D with
    | none => rfl
    | some o => rw [O1.f0 D o q] at nF; cases nF
  refine ⟨fun i m H => m = ds.length - i ∧ i ≤ ds.length ∧ ∃ F' ρ' acc vs, CState C Γ S F0 H0 own σ ρ1 F1 H1 D elt g ifs ds (fun acc ρ5 => K (.tmp (.lst acc)) (backV ρ1 own ρ5)) i H F' ρ' acc vs,
    ⟨ds.length, by simp, Nat.zero_le _, F1, wipeV own ρ1, [], [], ⟨(O1.wipe own).newO hD _, ⟨Sub.refl F1, fun a ha => ?_, fun a o ha _ _ => (Sub.upd hD) a o ha, fun i d e => ?_⟩, nF, (O1.wipe own).noslot hD, upd_same, .nil, hk⟩⟩, ?_⟩
  · have hx : a ≠ D := fun z => by subst z; exact ha hD
    rw [upd_ne hx]; exact ha
  · obtain ⟨a, b⟩ := wipeV_own e
    exact ⟨b, d, a⟩
  rintro i m H ⟨rfl, hi, F', ρ', acc, vs, st⟩
  have s : Sub F1 F' := st.go.f
  by_cases hlt : i < ds.length
  · refine .inr ⟨wk.go i H (s.trans st.ok.sub) hlt, fun H' => ∃ F' ρ' acc vs, CState C Γ S F0 H0 own σ ρ1 F1 H1 D elt g ifs ds (fun acc ρ5 => K (.tmp (.lst acc)) (backV ρ1 own ρ5)) (i + 1) H' F' ρ' acc vs,
      fun H' h => ⟨ds.length - (i + 1), by omega, rfl, hlt, h⟩, fun x Hy y => ?_⟩
    have hdr : ds.drop i = ds[i] :: ds.drop (i + 1) := List.drop_eq_getElem_cons hlt
    have hc := st.c
    rw [hdr] at hc
    have hc : cstep Γ elt g ifs ds[i] ρ' (fun r ρ1' => r.lv ρ1' (acc.length < lim ∧ compL own (cstep Γ elt g ifs) (ds.drop (i + 1)) (acc ++ [r.d]) (wipeV own (r.fz ρ1')) (fun acc ρ5 => K (.tmp (.lst acc)) (backV ρ1 own ρ5))))
        (fun ρ1' => compL own (cstep Γ elt g ifs) (ds.drop (i + 1)) acc (wipeV own ρ1') (fun acc ρ5 => K (.tmp (.lst acc)) (backV ρ1 own ρ5))) := hc
    -- the turn's datum
    have yy : ∃ F2, OK C S F0 H0 F2 Hy (L2.wipe σ own) ρ' ∧ Sub F' F2 ∧ Go S own σ ρ1 ρ' F1 H1 F2 Hy ∧ F2 D = none ∧ Hy D = some (.lst vs) ∧ Rep C S F2 ds[i] x := by
      rcases wk.yld i H x Hy ds[i] (s.trans st.ok.sub) (List.getElem?_eq_getElem hlt) y with ⟨e, rx⟩ | ⟨T, ts, es, e1, hT, e2, e3, rt⟩
      · subst e
        exact ⟨F', st.ok, Sub.refl F', st.go, st.fD, st.zD, rx.mono s⟩
      · subst e1 e2
        have hDT : D ≠ T := ne_of_none st.zD hT
        have nT := st.ok.new hT
        refine ⟨upd F' T (.tup ts), st.ok.newF hT _, Sub.upd nT.2.2, st.go.step (σ2 := L2.wipe σ own) (fun i d e => wipe_get (st.go.owns i d e).1) (Tr.newF hT nT.2.2 _), by rw [upd_ne hDT]; exact st.fD, by rw [upd_ne hDT]; exact st.zD, ?_⟩
        rw [e3]
        exact ⟨T, ts, rfl, .inl (.inl upd_same), rt.mono (s.trans (Sub.upd nT.2.2))⟩
    obtain ⟨F2, O2, s2, go2, fD2, zD2, rx⟩ := yy
    have O3 := O2.rebase zD2 n0 fD2 st.nD np
    refine ⟨S, F0, upd H0 D (.lst vs), F2, ρ', .val ds[i], _, O3, rx, trivial, hc, fun σ2 ρ3 F3 O4 s4 l4 k4 w4 hk4 => ?_⟩
    have w4 := w4 _ rfl
    have hwi : L2.wipe σ2 own = L2.wipe σ own := by
      refine wipe_congr (by rw [l4, wipe_length]) fun j hj => ?_
      rw [k4 j fun z => hj (hsub j z), wipe_get hj]
    have goT : Go S own σ ρ1 ρ3 F1 H1 F3 Hy := ⟨go2.f.trans s4, go2.dom, go2.keep, fun j d e => go2.owns j d (w4 j d e).1⟩
    have hs3 : ∀ (j : Nat) d, ρ3[j]? = some (.own d) → σ2[j]? = σ[j]? := fun j d e => by
      rw [(w4 j d e).2, wipe_get (go2.owns j d (w4 j d e).1).1]
    refine ⟨hwi, S, F0, upd H0 D (.lst vs), F3, ρ3, _, X0, O4, hk4, ⟨hx.1, fun _ _ _ _ _ _ _ _ _ z => z.elim⟩, fun b ρ4 F5 H5 O5 t5 hk5 => ?_⟩
    have go5 := goT.step hs3 t5
    have hs5 : ∀ (j : Nat) d, ρ4[j]? = some (.own d) → σ2[j]? = σ[j]? := fun j d e => by
      obtain ⟨d', e'⟩ := t5.owns j d e
      exact hs3 j d' e'
    cases b with
    | true =>
      refine L2.iteT ?_
      refine ⟨S, F0, upd H0 D (.lst vs), F5, ρ4, _, X0, O5, hk5.1 rfl, ⟨hx.1, fun _ _ _ _ _ _ _ _ _ z => z.elim⟩, fun r ρ6 w F6 H6 O6 t6 q6 f6 hk6 => ?_⟩
      obtain ⟨F7, O7, t7, r7, hz, hc'⟩ := freeze O6 q6 hk6
      obtain ⟨O8, fD8, zD8, nD8⟩ := O7.unbase n0 nF0 np
      have hs6 : ∀ (j : Nat) d, ρ6[j]? = some (.own d) → σ2[j]? = σ[j]? := fun j d e => by
        obtain ⟨d', e'⟩ := t6.owns j d e
        exact hs5 j d' e'
      have go7 := (go5.step hs5 t6).step hs6 t7
      have rA7 : Reps C S F7 acc vs := st.rA.mono (s2.trans (s4.trans (t5.f.trans (t6.f.trans t7.f))))
      refine ⟨vs, zD8, by rw [rA7.len]; exact lim_lt hz, F7, wipeV own (r.fz ρ6), acc ++ [r.d], vs ++ [w], ⟨?_, ⟨go7.f, fun a ha => ?_, fun a o ha hp nn => ?_, fun j d e => ?_⟩, fD8, fun j d e q => ?_, upd_same, rA7.app (.cons r7 .nil), hc'⟩⟩
      · have := (O8.updFree (u := .lst (vs ++ [w])) n0 fD8 nD8 np).wipe own
        rw [hwi] at this
        exact this
      · have hx : a ≠ D := fun z => by subst z; exact ha hD
        rw [upd_ne hx]; exact go7.dom a ha
      · have hx : a ≠ D := fun z => by subst z; rw [hD] at ha; cases ha
        rw [upd_ne hx]; exact go7.keep a o ha hp nn
      · obtain ⟨a, b⟩ := wipeV_own e
        exact ⟨b, (go7.owns j d a).2⟩
      · obtain ⟨a, b⟩ := wipeV_own e
        rw [← hwi, wipe_get b] at q
        exact nD8 j d a q
    | false =>
      refine L2.iteF ?_
      obtain ⟨O8, fD8, zD8, nD8⟩ := O5.unbase n0 nF0 np
      have rA7 : Reps C S F5 acc vs := st.rA.mono (s2.trans (s4.trans t5.f))
      refine ⟨F5, wipeV own ρ4, acc, vs, ⟨?_, ⟨go5.f, go5.dom, go5.keep, fun j d e => ?_⟩, fD8, fun j d e q => ?_, zD8, rA7, hk5.2 rfl⟩⟩
      · have := O8.wipe own
        rw [hwi] at this
        exact this
      · obtain ⟨a, b⟩ := wipeV_own e
        exact ⟨b, (go5.owns j d a).2⟩
      · obtain ⟨a, b⟩ := wipeV_own e
        rw [← hwi, wipe_get b] at q
        exact nD8 j d a q
  · have e : i = ds.length := by omega
    subst e
    have hc := st.c
    rw [List.drop_length] at hc
    have hl : ρ1.length = ρ'.length := by rw [O1.len, st.ok.len, wipe_length]
    refine .inl ⟨wk.stop H (s.trans st.ok.sub), gg (.tmp (.lst acc)) (backV ρ1 own ρ') (.ref D) F' H (O1.back hno st.ok s) (t1.trans (st.go.tr hl hno)) ⟨D, rfl, n0, np, fun j d q z => ?_, vs, st.zD, st.rA⟩ (fun b e => by cases e; exact st.fD) hc⟩
    rcases backV_get hl q with ⟨a, b⟩ | ⟨a, b⟩
    · exact hno j a d b
    · rw [← wipe_get (is := own) a] at z
      exact st.nD j d b z
theorem takesN0 {X : Cx} : L2N.Takes X (fun _ _ _ _ => False) := fun _ _ x => by
  obtain ⟨_, _, _, _, _, _, _, _, _, _, _, _, _, _, _, _, w⟩ := x
  exact w.elim
theorem Ctx.blk (cx : Ctx C Γ X cc W) (hcold : cc.hot = false) (s : Shared) (H : Hp) (scope : Scope) (cl : List (Str × Addr)) (c : Addr) (fp : List Addr) : Ctx C Γ (X.blk s H scope (compEnvC scope cl c X.env) fp) (cc.blk scope) W.no where
  hN := cx.hN
  sc := by
    show relS scope X.env.scope = relS scope cc.sc
    rw [cx.sc]
  fn := rfl
  nd := cx.nd
  K := cx.K
  cold := cx.cold
  hot := fun z => absurd (show cc.hot = true from z) (by rw [hcold]; decide)
  un := cx.un
  tk := takesN0
  po := PassesOwn.never
  fl := cx.fl
  ix := cx.ix
  fns := cx.fns
  cons := cx.cons
  blt := cx.blt
end
end VL
set_option maxHeartbeats 4000000
/-! VLj: every expression, statement and def of the text reads as the language says. -/
namespace VL
open PySem PySem.Spec PyProof.Rows L2
section
variable {C : CT} {Γ : Nat → VSp}
theorem boot_isinstance' : bootBuiltins ("isinstance" : Str) = some (.builtin "isinstance") := by decide +kernel
theorem isRange_ok {cc : CC} {args : List Expr} (h : isRange cc args = true) : cc.free "range" = true ∧
    ((∃ p pos a, args = [.Call (.Name "range" p) [a] [] pos] ∧ isStar a = false) ∨ ∃ p pos a b, args = [.Call (.Name "range" p) [a, b] [] pos] ∧ isStar a = false ∧ isStar b = false) := by
  unfold isRange at h
  split at h
  · rename_i f p as pos
    simp only [Bool.and_eq_true, decide_eq_true_eq, Bool.or_eq_true] at h
    obtain ⟨⟨⟨h1, h2⟩, h3⟩, h4⟩ := h
    subst h2
    refine ⟨h1, ?_⟩
    unfold noStars at h3
    match as, h3, h4 with
    | [a], h3, _ => exact .inl ⟨p, pos, a, rfl, by simpa using h3⟩
    | [a, b], h3, _ =>
      simp only [List.all_cons, List.all_nil, Bool.and_true, Bool.and_eq_true, Bool.not_eq_true'] at h3
      exact .inr ⟨p, pos, a, b, rfl, h3.1, h3.2⟩
    | [], _, h4 => simp at h4
    | _ :: _ :: _ :: _, _, h4 => simp at h4
  · cases h
/-- a comprehension, as a value and stored at once -/
theorem s_comp {X : Cx} {cc : CC} {W : WP} (cx : Ctx C Γ X cc W) (hcold : cc.hot = false) {elt g it : Expr} {ifs : List Expr} {scope : Scope} {pos : Pos} {ve : VE} {vg : VG} {vi : VI} {vc : VC} (hb : blkC cc.N cc.sc scope (ownOf cc.N scope) = true) (hset : isSet it = false)
    (hsub : vg.slots.all (fun i => ((ownOf cc.N scope).map (·.2)).contains i) = true)
    (he : ∀ (s : Shared) (H : Hp) (c : Addr) (cl : List (Str × Addr)) (fp : List Addr), PE (X.blk s H scope (compEnvC scope cl c X.env) fp) elt (tE C Γ W.no ve))
    (hg : ∀ (s : Shared) (H : Hp) (c : Addr) (cl : List (Str × Addr)) (fp : List Addr), PG (X.blk s H scope (compEnvC scope cl c X.env) fp) g (tG C vg))
    (ht : ∀ (s : Shared) (H : Hp) (c : Addr) (cl : List (Str × Addr)) (fp : List Addr), PTs (X.blk s H scope (compEnvC scope cl c X.env) fp) ifs (tCo C Γ W.no vc))
    (hi : PI X g it (tI C Γ W vi)) :
    PE X (.ListComp elt [⟨g, it, ifs, 0⟩] scope pos) (tE C Γ W (.comp ((ownOf cc.N scope).map (·.2)) ve vg vi vc)) ∧
    ∀ (i : Nat) (y : Str) (py spos : Pos), X.N[i]? = some y → X.env.scope.names.lookup y = some .local → swapsWith (.ListComp elt [⟨g, it, ifs, 0⟩] scope pos) (some (.Name y py)) spos.line X.env = pure true →
      PS X (.Assign [.Name y py] (.ListComp elt [⟨g, it, ifs, 0⟩] scope pos) spos) (tAsg (tE C Γ W (.comp ((ownOf cc.N scope).map (·.2)) ve vg vi vc)) (gName i)) := by
  have ok : BlkOk X.N X.env.scope scope (ownOf cc.N scope) := by
    rw [cx.hN, cx.sc]
    exact blkOk_by hb
  have sub : ∀ j ∈ vg.slots, j ∈ (ownOf cc.N scope).map (·.2) := fun j hj => by
    have := List.all_eq_true.mp hsub j hj
    simpa using this
  refine ⟨pe_imp (pe_lc (cx.cold hcold).1 cx.nd hi ok hg ht he (set_plain hset)) (lc_imp sub), fun i y py spos hy hl hsw => ?_⟩
  have := ps_setLc (cx.cold hcold).1 cx.nd hy hl hsw hi ok hg ht he (set_plain hset)
  exact ⟨fun pins s σ H D I q => this.run pins s σ H D I (lc_imp sub σ H _ q)⟩
theorem pts_yes {X : Cx} {W : WP} : PTs X [] (tCo C Γ W .tyes) := ⟨fun pins s σ H Q I q => by
  obtain ⟨S, F0, H0, F, ρ, K, E, O, hw, hx, g⟩ := q
  unfold wC at hw
  exact pts_nil.run pins s σ H Q I (g true ρ F H O Tr.refl hw)⟩
theorem isTrue_tv {e : Expr} {env : PySem.Env} (h1 : ∀ op es p, e ≠ .BoolOp op es p) (h2 : ∀ a p, e ≠ .UnaryOp .Not a p) (h3 : ∀ a b c p, e ≠ .IfExp a b c p) (h4 : ∀ a b c p, e ≠ .Compare a b c p) :
    ∀ whole, isTrue e env whole = (do let v ← whole; standAt e.pos; holding [v] (truthy v)) := fun whole => by
  cases e with
  | BoolOp op es p => exact absurd rfl (h1 op es p)
  | IfExp a b c p => exact absurd rfl (h3 a b c p)
  | Compare a b c p => exact absurd rfl (h4 a b c p)
  | UnaryOp op a p =>
    cases op with
    | Not => exact absurd rfl (h2 a p)
    | _ => rfl
  | _ => rfl
/-- the master theorem for expressions -/
def AllE (C : CT) (Γ : Nat → VSp) (n : Nat) : Prop :=
  (∀ {X : Cx} {cc : CC} {W : WP}, Ctx C Γ X cc W → ∀ e, PE X e (tE C Γ W (cE n cc e))) ∧
  (∀ {X : Cx} {cc : CC} {W : WP}, Ctx C Γ X cc W → ∀ e, PT X e (tCo C Γ W (cC n cc e))) ∧
  ∀ {X : Cx} {cc : CC} {W : WP}, Ctx C Γ X cc W → ∀ g e, PI X g e (tI C Γ W (cI n cc g e))
theorem comp_of {n : Nat} (ih : AllE C Γ n) {X : Cx} {cc : CC} {W : WP} (cx : Ctx C Γ X cc W) {elt g it : Expr} {ifs : List Expr} {scope : Scope} {pos : Pos}
    (h : (!cc.hot && (blkC cc.N cc.sc scope (ownOf cc.N scope) && !isSet it && (cG n (cc.blk scope) g).slots.all (fun i => ((ownOf cc.N scope).map (·.2)).contains i))) = true) :
    PE X (.ListComp elt [⟨g, it, ifs, 0⟩] scope pos) (tE C Γ W (.comp ((ownOf cc.N scope).map (·.2)) (cE n (cc.blk scope) elt) (cG n (cc.blk scope) g) (cI n cc g it) (match ifs with
          | [] => .tyes
          | [t] => cC n (cc.blk scope) t
          | _ => .tv .bad))) ∧
    ∀ (i : Nat) (y : Str) (py spos : Pos), X.N[i]? = some y → X.env.scope.names.lookup y = some .local → swapsWith (.ListComp elt [⟨g, it, ifs, 0⟩] scope pos) (some (.Name y py)) spos.line X.env = pure true →
      PS X (.Assign [.Name y py] (.ListComp elt [⟨g, it, ifs, 0⟩] scope pos) spos) (tAsg (tE C Γ W (.comp ((ownOf cc.N scope).map (·.2)) (cE n (cc.blk scope) elt) (cG n (cc.blk scope) g) (cI n cc g it) (match ifs with
          | [] => .tyes
          | [t] => cC n (cc.blk scope) t
          | _ => .tv .bad))) (gName i)) := by
  obtain ⟨ihE, ihC, ihI⟩ := ih
  simp only [Bool.and_eq_true, Bool.not_eq_true'] at h
  have hcold := h.1
  refine s_comp cx h.1 h.2.1.1 h.2.1.2 h.2.2 (fun s H c cl fp => ihE (cx.blk hcold s H scope cl c fp) elt) (fun s H c cl fp => s_g (cx.blk hcold s H scope cl c fp) n g) (fun s H c cl fp => ?_) (ihI cx g it)
  match ifs with
  | [] => exact pts_yes
  | [t] => exact pts_one (ihC (cx.blk hcold s H scope cl c fp) t)
  | a :: b :: r =>
    refine ⟨fun pins s σ H Q I q => ?_⟩
    obtain ⟨_, _, _, _, _, _, _, _, z, _⟩ := q
    unfold wC wE at z
    exact z.elim
theorem allE : ∀ n, AllE C Γ n
  | 0 => ⟨fun cx e => by unfold cE; exact pe_bad, fun cx e => by unfold cC; exact pt_bad, fun cx g e => by unfold cI; exact pi_bad⟩
  | n + 1 => by
    have ih := allE n
    have ihE := @ih.1
    have ihC := @ih.2.1
    have ihI := @ih.2.2
    refine ⟨fun {X cc W} cx e => ?_, fun {X cc W} cx e => ?_, fun {X cc W} cx g e => ?_⟩
    · have hE := ihE cx
      unfold cE
      split
      · -- Name
        split
        · rename_i h
          split
          · exact s_var cx h ‹_›
          · exact pe_bad
        · split
          · rename_i h
            split
            · exact s_con cx h ‹_›
            · exact pe_bad
          · exact pe_bad
      · exact s_cst pe_int fun _ _ => rep_int
      · exact s_cst pe_bl fun _ _ => rep_bl
      · exact s_cst pe_non fun _ _ => rep_non
      · exact s_cst pe_str fun _ _ => rep_str
      · exact s_bin cx (hE _) (hE _)
      · exact s_neg cx (hE _)
      · exact s_ands hE _
      · exact s_ors hE _
      · split
        · exact pe_bad
        · rename_i h
          exact s_cmp cx (by simpa using h) (hE _) (hE _)
      · split
        · exact pe_bad
        · rename_i h
          simp only [Bool.or_eq_true, not_or, Bool.not_eq_true] at h
          exact s_chn cx h.1 h.2 (hE _) (hE _) (hE _)
      · exact s_ife (ihC cx _) (hE _) (hE _)
      · split
        · rename_i h
          simp only [Bool.and_eq_true, decide_eq_true_eq] at h
          exact s_tup hE h.2 h.1
        · exact pe_bad
      · split
        · rename_i h
          simp only [Bool.and_eq_true, decide_eq_true_eq] at h
          exact s_lst hE h.2 h.1
        · exact pe_bad
      · exact s_sl cx (hE _) (s_po hE _) (s_po hE _)
      · split
        · exact pe_bad
        · rename_i h
          exact s_ix cx (by simpa using h) (hE _) (hE _)
      · -- calls of names
        rename_i f p args pos
        split
        · exact pe_bad
        · rename_i h
          simp only [Bool.or_eq_true, not_or, Bool.not_eq_true, Bool.not_eq_true', Bool.not_eq_false] at h
          obtain ⟨⟨hg, hs⟩, hne⟩ := h
          cases args with
          | nil => cases hne
          | cons a as =>
            split
            · rename_i k hk
              exact s_call cx hE hg hk hs
            · split
              · exact pe_bad
              · rename_i hf
                have hf : cc.free f = true := by simpa using hf
                split
                · rename_i hl
                  simp only [Bool.and_eq_true, decide_eq_true_eq] at hl
                  obtain ⟨e1, hr, hcold⟩ := hl
                  have hcold : cc.hot = false := by simpa using hcold
                  subst e1
                  obtain ⟨h2, hr⟩ := isRange_ok hr
                  rcases hr with ⟨p', pos', b, e, hb⟩ | ⟨p', pos', b, c, e, hb, hc⟩
                  · rw [e]
                    exact s_lrg1 cx hcold hf h2 hb (hE _)
                  · rw [e]
                    exact s_lrg2 cx hcold hf h2 hb hc (hE _) (hE _)
                · split
                  · rename_i hi
                    simp only [decide_eq_true_eq] at hi
                    subst hi
                    split
                    · rename_i b t p2 he
                      cases he
                      have hst : isStar a = false := by unfold noStars at hs; simp only [List.all_cons, Bool.and_eq_true, Bool.not_eq_true'] at hs; exact hs.1
                      split
                      · rename_i m hm
                        by_cases ht : cc.free t = true
                        · rw [if_pos ht] at hm
                          exact s_isin cx hf ht hm hst (hE _)
                        · rw [if_neg ht] at hm
                          cases hm
                      · split
                        · rename_i hc
                          rw [Bool.and_eq_true] at hc
                          split
                          · exact s_isinX cx hf hc.1 hc.2 ‹_› hst (hE _)
                          · exact pe_bad
                        · exact pe_bad
                    · exact pe_bad
                  · split
                    · split
                      · exact s_blt cx hE hf ‹_› hs ‹_›
                      · exact pe_bad
                    · exact pe_bad
      · -- methods
        rename_i o m ap args cp
        split
        · exact pe_bad
        · rename_i h
          simp only [Bool.or_eq_true, not_or, Bool.not_eq_true, Bool.not_eq_true', Bool.not_eq_false, decide_eq_true_eq] at h
          obtain ⟨⟨hs, hl⟩, hn⟩ := h
          split
          · split
            · exact s_met cx hE rfl ‹_› hs (by simpa using hn) hl
            · exact pe_bad
          · exact pe_bad
      · -- fields
        split
        · split
          · split
            · exact s_fldX cx ‹_› ‹_› (hE _)
            · exact pe_bad
          · exact pe_bad
        · exact pe_bad
      · -- comprehensions
        split
        · exact (comp_of ih cx ‹_›).1
        · exact pe_bad
      · exact pe_bad
    · unfold cC
      split
      · exact s_tnot (ihC cx _)
      · exact (s_tands (ihC cx) _).pt
      · exact (s_tors (ihC cx) _).pt
      · exact pt_bad
      · split
        · exact pt_bad
        · rename_i h
          exact s_cmpT cx (by simpa using h) (ihE cx _) (ihE cx _)
      · split
        · exact pt_bad
        · rename_i h
          simp only [Bool.or_eq_true, not_or, Bool.not_eq_true] at h
          exact s_chnT cx h.1 h.2 (ihE cx _) (ihE cx _) (ihE cx _)
      · exact pt_bad
      · rename_i h1 h2 h3 h4 h5 h6 h7
        refine s_tv cx (ihE cx _) (isTrue_tv (fun op es p z => ?_) (fun a p z => ?_) (fun a b c p z => ?_) (fun a b c p z => ?_))
        all_goals subst z
        · cases op
          · exact h2 _ _ rfl
          · exact h3 _ _ rfl
        · exact h1 _ _ rfl
        · exact h4 _ _ _ _ rfl
        · exact h7 _ _ _ _ rfl
    · unfold cI
      split
      · rename_i f p args pos
        split
        · exact s_it cx (ihE cx _)
        · rename_i h
          simp only [Bool.or_eq_true, not_or, Bool.not_eq_true, Bool.not_eq_true', Bool.not_eq_false] at h
          obtain ⟨hf, hs⟩ := h
          unfold noStars at hs
          split
          · rename_i e
            simp only [decide_eq_true_eq] at e
            subst e
            split
            · simp only [List.all_cons, List.all_nil, Bool.and_true, Bool.not_eq_true'] at hs
              exact s_rng1 cx hf hs (ihE cx _)
            · simp only [List.all_cons, List.all_nil, Bool.and_true, Bool.and_eq_true, Bool.not_eq_true'] at hs
              exact s_rng2 cx hf hs.1 hs.2 (ihE cx _) (ihE cx _)
            · exact pi_bad
          · split
            · rename_i e
              simp only [decide_eq_true_eq] at e
              subst e
              split
              · simp only [List.all_cons, List.all_nil, Bool.and_true, Bool.not_eq_true'] at hs
                exact s_enum cx hf hs (ihE cx _)
              · exact pi_bad
            · split
              · rename_i e
                simp only [decide_eq_true_eq] at e
                subst e
                split
                · simp only [List.all_cons, List.all_nil, Bool.and_true, Bool.and_eq_true, Bool.not_eq_true'] at hs
                  exact s_zip cx hf hs.1 hs.2 (ihE cx _) (ihE cx _)
                · exact pi_bad
              · exact s_it cx (ihE cx _)
      · exact s_it cx (ihE cx _)
end
end VL
set_option maxHeartbeats 4000000
/-! VLk: statements, defs. -/
namespace VL
open PySem PySem.Spec PyProof.Rows L2
structure EOK (C : CT) (S : SG) (F0 H0 : Hp) (Dv : VEnds) (D : Ends) : Prop where
  nx : ∀ σ ρ F H, OK C S F0 H0 F H σ ρ → Dv.nx ρ → D.nx σ H
  bk : ∀ σ ρ F H, OK C S F0 H0 F H σ ρ → Dv.bk ρ → D.bk σ H
  ct : ∀ σ ρ F H, OK C S F0 H0 F H σ ρ → Dv.ct ρ → D.ct σ H
  rt : ∀ o d v F' H', Ext S F0 H0 F' H' → Res C S H0 F' H' o d v → Dv.rt o d → D.rt v H'
def tS (C : CT) (Γ : Nat → VSp) (W : WP) (s : VS) : TS := fun D σ H => ∃ (S : SG) (F0 H0 F : Hp) (ρ : En) (Dv : VEnds) (E : VL.XK), OK C S F0 H0 F H σ ρ ∧ wS Γ s ρ Dv E ∧ XOK C S F0 H0 W E ∧ EOK C S F0 H0 Dv D
def tSs (C : CT) (Γ : Nat → VSp) (W : WP) (s : VSs) : TS := fun D σ H => ∃ (S : SG) (F0 H0 F : Hp) (ρ : En) (Dv : VEnds) (E : VL.XK), OK C S F0 H0 F H σ ρ ∧ wSs Γ s ρ Dv E ∧ XOK C S F0 H0 W E ∧ EOK C S F0 H0 Dv D
section
variable {C : CT} {Γ : Nat → VSp} {X : Cx} {cc : CC} {W : WP}
theorem ps_imp {s : Stmt} {t t' : TS} (h : PS X s t) (i : ∀ D σ H, t' D σ H → t D σ H) : PS X s t' := ⟨fun pins s σ H D I q => h.run pins s σ H D I (i D σ H q)⟩
theorem pss_imp {s : List Stmt} {t t' : TS} (h : PSs X s t) (i : ∀ D σ H, t' D σ H → t D σ H) : PSs X s t' := ⟨fun pins s σ H D I q => h.run pins s σ H D I (i D σ H q)⟩
theorem ps_bad {s : Stmt} : PS X s (tS C Γ W .bad) := ⟨fun pins s σ H D I q => by
  obtain ⟨_, _, _, _, _, _, _, _, z, _⟩ := q
  unfold wS at z
  exact z.elim⟩
theorem OK.ext {S : SG} {F0 H0 F H : Hp} {σ : L2.St} {ρ : En} (O : OK C S F0 H0 F H σ ρ) : Ext S F0 H0 F H := ⟨O.f0, O.sub, O.fr, O.fn, O.sto⟩
theorem OK.self {S : SG} {F0 H0 F H : Hp} {σ : L2.St} {ρ : En} (O : OK C S F0 H0 F H σ ρ) : OK C S F H0 F H σ ρ := { O with f0 := Sub.refl F, fn := fun a o e => .inl e }
theorem OK.re {S : SG} {F0 H0 F H F' H' : Hp} {σ σ' : L2.St} {ρ ρ' : En} (O : OK C S F0 H0 F H σ ρ) (O' : OK C S F H0 F' H' σ' ρ') : OK C S F0 H0 F' H' σ' ρ' := { O' with f0 := O.f0.trans O'.f0, fn := fun a o e => (O'.fn a o e).elim (O.fn a o) .inr }
theorem OK.reExt {S : SG} {F0 H0 F H F' H' : Hp} {σ : L2.St} {ρ : En} (O : OK C S F0 H0 F H σ ρ) (e : Ext S F H0 F' H') : Ext S F0 H0 F' H' := { e with f := O.f0.trans e.f, fn := fun a o q => (e.fn a o q).elim (O.fn a o) .inr }
theorem res_of {S : SG} {F0 H0 F H : Hp} {σ : L2.St} {ρ : En} {r : R} {v : V} {K : Bool → D → Prop} (O : OK C S F0 H0 F H σ ρ) (q : RRep C S H0 F H σ ρ r v) (f : RFresh F ρ r v) (h : retR r K) : ∃ o, Res C S H0 F H o r.d v ∧ K o r.d := by
  cases r with
  | val d => exact ⟨false, q, h⟩
  | tmp d =>
    obtain ⟨a, e, h0, hp, n, k⟩ := q
    refine ⟨true, ⟨a, e, h0, f a e, hp, ?_⟩, h⟩
    cases d with
    | lst ds => exact k
    | _ => exact k.elim
  | var i d =>
    obtain ⟨a, e1, k⟩ := O.own i d f
    have q' : σ[i]? = some (some v) := q
    rw [q'] at e1
    cases e1
    exact ⟨true, ⟨a, rfl, k⟩, h⟩
theorem k_ret {e : Expr} {ve : VE} {pos : Pos} (h : PE X e (tE C Γ W ve)) : PS X (.Return (some e) pos) (tS C Γ W (.ret ve)) := by
  refine ps_imp (ps_ret h) ?_
  rintro D σ H ⟨S, F0, H0, F, ρ, Dv, E, O, hw, hx, g⟩
  unfold wS at hw
  refine ⟨S, F0, H0, F, ρ, _, E, O, hw, hx, fun r ρ' v F' H' O' t' q' f' hk => ?_⟩
  obtain ⟨o, hr, hk⟩ := res_of O' q' f' hk
  exact g.rt o _ v F' H' O'.ext hr hk
theorem k_retN {pos : Pos} : PS X (.Return none pos) (tS C Γ W .retN) := by
  refine ps_imp ps_retN ?_
  rintro D σ H ⟨S, F0, H0, F, ρ, Dv, E, O, hw, hx, g⟩
  unfold wS at hw
  exact g.rt false .non .non F H O.ext (rep_non (C := C) (S := S) (F := F)) hw
theorem k_pass {pos : Pos} : PS X (.Pass pos) (tS C Γ W .pass) := by
  refine ps_imp ps_pass ?_
  rintro D σ H ⟨S, F0, H0, F, ρ, Dv, E, O, hw, hx, g⟩
  unfold wS at hw
  exact g.nx _ _ _ _ O hw
theorem k_doc {x : Str} {j : Nat} {pos pos' : Pos} : PS X (.Expr (.Constant (.str x) j pos) pos') (tS C Γ W .pass) := by
  refine ps_imp ps_doc ?_
  rintro D σ H ⟨S, F0, H0, F, ρ, Dv, E, O, hw, hx, g⟩
  unfold wS at hw
  exact g.nx _ _ _ _ O hw
theorem k_brk {pos : Pos} : PS X (.Break pos) (tS C Γ W .brk) := by
  refine ps_imp ps_break ?_
  rintro D σ H ⟨S, F0, H0, F, ρ, Dv, E, O, hw, hx, g⟩
  unfold wS at hw
  exact g.bk _ _ _ _ O hw
theorem k_cnt {pos : Pos} : PS X (.Continue pos) (tS C Γ W .cnt) := by
  refine ps_imp ps_continue ?_
  rintro D σ H ⟨S, F0, H0, F, ρ, Dv, E, O, hw, hx, g⟩
  unfold wS at hw
  exact g.ct _ _ _ _ O hw
theorem k_ex {e : Expr} {ve : VE} {pos : Pos} (hs : swapsWith e none pos.line X.env = pure false) (h : PE X e (tE C Γ W ve)) : PS X (.Expr e pos) (tS C Γ W (.ex ve)) := by
  refine ps_imp (ps_expr h hs) ?_
  rintro D σ H ⟨S, F0, H0, F, ρ, Dv, E, O, hw, hx, g⟩
  unfold wS at hw
  exact ⟨S, F0, H0, F, ρ, _, E, O, hw, hx, fun r ρ' v F' H' O' t' q' f' hk => g.nx _ _ _ _ O' hk⟩
theorem k_asg {e tg : Expr} {ve : VE} {vg : VG} {t : TG} {s : Stmt} (h : PS X s (tAsg (tE C Γ W ve) t)) (hi : ∀ v σ H Q, tG C vg v σ H Q → t v σ H Q) : PS X s (tS C Γ W (.asg vg ve)) := by
  refine ps_imp h ?_
  rintro D σ H ⟨S, F0, H0, F, ρ, Dv, E, O, hw, hx, g⟩
  unfold wS at hw
  exact ⟨S, F0, H0, F, ρ, _, E, O, hw, hx, fun r ρ' v F' H' O' t' q' f' hk => hi v σ H' _ ⟨S, F0, H0, F', ρ', r, _, O', q', f', hk, fun σ2 ρ2 F2 O2 _ _ _ _ hk2 => g.nx _ _ _ _ O2 hk2⟩⟩
theorem k_if {c : Expr} {a b : List Stmt} {vc : VC} {va vb : VSs} {pos : Pos} (hc : PT X c (tCo C Γ W vc)) (ha : PSs X a (tSs C Γ W va)) (hb : PSs X b (tSs C Γ W vb)) : PS X (.If c a b pos) (tS C Γ W (.ifS vc va vb)) := by
  refine ps_imp (ps_if hc ha hb) ?_
  rintro D σ H ⟨S, F0, H0, F, ρ, Dv, E, O, hw, hx, g⟩
  unfold wS at hw
  refine ⟨S, F0, H0, F, ρ, _, E, O, hw, hx, fun c ρ' F' H' O' t' hk => ?_⟩
  cases c with
  | true => exact L2.iteT ⟨S, F0, H0, F', ρ', Dv, E, O', hk.1 rfl, hx, g⟩
  | false => exact L2.iteF ⟨S, F0, H0, F', ρ', Dv, E, O', hk.2 rfl, hx, g⟩
theorem k_list {f : Stmt → VS} (h : ∀ s, PS X s (tS C Γ W (f s))) : ∀ ss : List Stmt, PSs X ss (tSs C Γ W (mapS f ss))
  | [] => by
    refine pss_imp pss_nil ?_
    rintro D σ H ⟨S, F0, H0, F, ρ, Dv, E, O, hw, hx, g⟩
    unfold mapS wSs at hw
    exact g.nx _ _ _ _ O hw
  | s :: ss => by
    refine pss_imp (pss_cons (h s) (k_list h ss)) ?_
    rintro D σ H ⟨S, F0, H0, F, ρ, Dv, E, O, hw, hx, g⟩
    unfold mapS wSs at hw
    exact ⟨S, F0, H0, F, ρ, _, E, O, hw, hx, ⟨fun σ' ρ' F' H' O' hk => ⟨S, F0, H0, F', ρ', Dv, E, O', hk, hx, g⟩, g.bk, g.ct, g.rt⟩⟩
theorem k_aug (cx : Ctx C Γ X cc W) {x : Str} {i : Nat} {op : Operator} {e : Expr} {ve : VE} {p pos : Pos} (hv : cc.see x = true) (hp : cc.put x = true) (hi : ixOf x cc.N = some i) (h : PE X e (tE C Γ W ve)) : PS X (.AugAssign (.Name x p) op e pos) (tS C Γ W (.aug i op ve)) := by
  have hl : Loc X.env.scope x ∧ (X.fn x = true ∨ X.env.scope.names.lookup x = some .local) := by
    unfold CC.put CC.kind at hp
    rw [cx.sc, cx.fn]
    split at hp
    · exact ⟨.inl ‹_›, .inr ‹_›⟩
    · exact ⟨.inr ‹_›, .inl hp⟩
    · cases hp
  have fin : ∀ (ti : TIp), PIp X op ti → (∀ (S : SG) (F0 H0 F : Hp) (σ : L2.St) (H : Hp) (ρ : En) (x y : R) (v w : V) (K : En → Prop) (Q : VK), OK C S F0 H0 F H σ ρ → View C S F H x.d v → View C S F H y.d w → vAug i op x y ρ K →
      (∀ d u, Rep C S F d u → K (ρ.set i (.val d)) → Q u H) → ti v w H Q) → PS X (.AugAssign (.Name x p) op e pos) (tS C Γ W (.aug i op ve)) := fun ti hti hh => by
    refine ps_imp (ps_aug cx.nd (cx.slot hi) hl.1 h hti hl.2) ?_
    rintro D σ H ⟨S, F0, H0, F, ρ, Dv, E, O, hw, hx, g⟩
    unfold wS look at hw
    have main : ∀ (r : R) (v : V), σ[i]? = some (some v) → RRep C S H0 F H σ ρ r v → wE Γ ve ρ (fun y ρ1 => r.lv ρ1 (vAug i op r y ρ1 Dv.nx)) E → tAug i (tE C Γ W ve) ti D σ H := fun r v hv q hw => by
      refine ⟨v, hv, S, F0, H0, F, ρ, _, E, O, hw, hx, fun y ρ1 w F1 H1 O1 t1 q1 f1 hk => ?_⟩
      obtain ⟨w1, hk⟩ := view_of O1 (q.tr t1) hk
      obtain ⟨w2, _⟩ := view_of O1 q1 f1.lv
      exact hh S F0 H0 F1 σ H1 ρ1 r y v w _ _ O1 w1 w2 hk fun d u hu hk => g.nx _ _ _ _ (O1.setVal i hu) hk
    split at hw
    · rename_i d hd
      obtain ⟨v, e, r⟩ := O.val i d hd
      exact main (.val d) v e r hw
    · rename_i d hd
      obtain ⟨a, e, r⟩ := O.own i d hd
      exact main (.var i d) (.ref a) e e hw
    · exact hw.elim
  have no : PIp X op (fun _ _ _ _ => False) := fun _ _ _ _ _ _ _ _ _ _ _ _ z => z.elim
  cases op with
  | Add =>
    refine fin _ ip_add fun S F0 H0 F σ H ρ x y v w K Q O hx hy hv k => ?_
    unfold vAug at hv
    split at hv
    · rename_i e1 e2
      exact ⟨_, _, hx.asInt e1, hy.asInt e2, k _ _ rep_int hv⟩
    · rename_i hz _ _; cases hz
    · exact hv.elim
  | Sub =>
    refine fin _ ip_sub fun S F0 H0 F σ H ρ x y v w K Q O hx hy hv k => ?_
    unfold vAug at hv
    split at hv
    · rename_i hz _ _; cases hz
    · rename_i e1 e2
      exact ⟨_, _, hx.asInt e1, hy.asInt e2, k _ _ rep_int hv⟩
    · exact hv.elim
  | _ =>
    refine fin _ no fun S F0 H0 F σ H ρ x y v w K Q O hx hy hv k => ?_
    unfold vAug at hv
    split at hv <;> first | (rename_i hz _ _; cases hz; done) | exact hv.elim
theorem k_whl (cx : Ctx C Γ X cc W) {c : Expr} {b : List Stmt} {vc : VC} {vb : VSs} {pos : Pos} (hc : PT X c (tCo C Γ W vc)) (hb : PSs X b (tSs C Γ W vb)) : PS X (.While c b [] pos) (tS C Γ W (.whl vc vb)) := by
  refine ps_imp (ps_while cx.po hc hb) ?_
  rintro D σ H ⟨S, F0, H0, F, ρ, Dv, E, O, hw, hx, g⟩
  unfold wS at hw
  obtain ⟨Wv, ⟨m0, w0⟩, turn⟩ := hw
  refine ⟨fun m σ H => ∃ F ρ, OK C S F0 H0 F H σ ρ ∧ Wv m ρ, ⟨m0, F, ρ, O, w0⟩, fun m σ1 H1 ⟨F1, ρ1, O1, w1⟩ => ⟨S, F0, H0, F1, ρ1, _, E, O1, turn m ρ1 w1, hx, fun k ρ' F' H' O' t' hk => ?_⟩⟩
  cases k with
  | true =>
    refine L2.iteT ⟨fun σ' H' => ∃ m', m' < m ∧ ∃ F ρ, OK C S F0 H0 F H' σ' ρ ∧ Wv m' ρ, fun σ' H' h => h, S, F0, H0, F', ρ', _, E, O', hk.1 rfl, hx, ⟨fun σ2 ρ2 F2 H2 O2 ⟨m', hm, hw⟩ => ⟨m', hm, F2, ρ2, O2, hw⟩, fun σ2 ρ2 F2 H2 O2 hw => g.nx _ _ _ _ O2 hw, fun σ2 ρ2 F2 H2 O2 ⟨m', hm, hw⟩ => ⟨m', hm, F2, ρ2, O2, hw⟩, g.rt⟩⟩
  | false => exact L2.iteF (g.nx _ _ _ _ O' (hk.2 rfl))
theorem k_for (cx : Ctx C Γ X cc W) (hcold : cc.hot = false) {tg it : Expr} {b : List Stmt} {vg : VG} {vi : VI} {vb : VSs} {pos : Pos} (hset : isSet it = false) (hi : PI X tg it (tI C Γ W vi)) (hg : PG X tg (tG C vg)) (hb : PSs X b (tSs C Γ W vb)) : PS X (.For tg it b [] pos) (tS C Γ W (.forS vg vi vb)) := by
  refine ps_imp (ps_for cx.po (cx.cold hcold).1 hi hg hb (set_plain hset)) ?_
  rintro D σ H ⟨S, F0, H0, F, ρ, Dv, E, O, hw, hx, g⟩
  unfold wS at hw
  refine ⟨S, F0, H0, F, ρ, _, E, O, hw, hx, fun ds ρ1 J F1 H1 O1 t1 wk hk => ?_⟩
  have hk : forL (fun d ρ2 nx bk => wG vg (.val d) ρ2 fun ρ3 => wSs Γ vb ρ3 { nx := nx, rt := Dv.rt, bk := bk, ct := nx } E) Dv.nx ds ρ1 := hk
  generalize hst : (fun d ρ2 nx bk => wG vg (.val d) ρ2 fun ρ3 => wSs Γ vb ρ3 { nx := nx, rt := Dv.rt, bk := bk, ct := nx } E : VL.D → En → (En → Prop) → (En → Prop) → Prop) = step at hk
  refine ⟨fun i m σ H => m = ds.length - i ∧ i ≤ ds.length ∧ ∃ F' ρ', OK C S F0 H0 F' H σ ρ' ∧ Sub F1 F' ∧ forL step Dv.nx (ds.drop i) ρ', ⟨ds.length, by simp, Nat.zero_le _, F1, ρ1, O1, Sub.refl F1, hk⟩, ?_⟩
  rintro i m σ2 H2 ⟨rfl, hle, F2, ρ2, O2, s2, hk2⟩
  by_cases hlt : i < ds.length
  · refine .inr ⟨wk.go i H2 (s2.trans O2.sub) hlt, fun σ' H' => ∃ F' ρ', OK C S F0 H0 F' H' σ' ρ' ∧ Sub F1 F' ∧ forL step Dv.nx (ds.drop (i + 1)) ρ', fun σ' H' h => ⟨ds.length - (i + 1), by omega, rfl, hlt, h⟩, fun x Hy y => ?_⟩
    have hdr : ds.drop i = ds[i] :: ds.drop (i + 1) := List.drop_eq_getElem_cons hlt
    rw [hdr] at hk2
    have hk2 : step ds[i] ρ2 (forL step Dv.nx (ds.drop (i + 1))) Dv.nx := hk2
    rw [← hst] at hk2
    have yy : ∃ F3, OK C S F0 H0 F3 Hy σ2 ρ2 ∧ Sub F1 F3 ∧ Rep C S F3 ds[i] x := by
      rcases wk.yld i H2 x Hy ds[i] (s2.trans O2.sub) (List.getElem?_eq_getElem hlt) y with ⟨e, rx⟩ | ⟨T, ts, es, e1, hT, e2, e3, rt⟩
      · subst e
        exact ⟨F2, O2, s2, rx.mono s2⟩
      · subst e1 e2
        have nT := O2.new hT
        refine ⟨upd F2 T (.tup ts), O2.newF hT _, s2.trans (Sub.upd nT.2.2), ?_⟩
        rw [e3]
        exact ⟨T, ts, rfl, .inl (.inl upd_same), rt.mono (s2.trans (Sub.upd nT.2.2))⟩
    obtain ⟨F3, O3, s3, rx⟩ := yy
    refine ⟨S, F0, H0, F3, ρ2, .val ds[i], _, O3, rx, trivial, hk2, fun σ4 ρ4 F4 O4 s4 _ _ _ hk4 => ?_⟩
    have s14 : Sub F1 F4 := s3.trans s4
    refine ⟨S, F4, H0, F4, ρ4, _, E, O4.self, hk4, ⟨hx.1, fun x ρ F H σ cls dx O q e => hx.2 x ρ F H σ cls dx (O4.re O) q e⟩, ⟨?_, ?_, ?_, ?_⟩⟩
    · exact fun σ5 ρ5 F5 H5 O5 hk5 => ⟨F5, ρ5, O4.re O5, s14.trans O5.f0, by subst hst; exact hk5⟩
    · exact fun σ5 ρ5 F5 H5 O5 hk5 => g.nx _ _ _ _ (O4.re O5) hk5
    · exact fun σ5 ρ5 F5 H5 O5 hk5 => ⟨F5, ρ5, O4.re O5, s14.trans O5.f0, by subst hst; exact hk5⟩
    · exact fun o d v F5 H5 e5 q5 r5 => g.rt o d v F5 H5 (O4.reExt e5) q5 r5
  · have e : i = ds.length := by omega
    subst e
    rw [List.drop_length] at hk2
    exact .inl ⟨wk.stop H2 (s2.trans O2.sub), g.nx _ _ _ _ O2 hk2⟩
end
end VL
set_option maxHeartbeats 4000000
/-! VLl: raise, try, every statement. -/
namespace VL
open PySem PySem.Spec PyProof.Rows L2

/-! ### raise -/
/-- C's own __init__(self, f, ..): self.f = f .. -/
def initSp (C : Addr) (fs : List Str) : Sp := fun vs H Q E => ∃ a ws, vs = .ref a :: ws ∧ ws.length = fs.length ∧ H a = some (exo a C none) ∧
  ∀ dx H', H dx = none → dx ≠ a → H' a = some (exo a C (some dx)) → H' dx = some (exd dx (fs.zip ws).reverse) → (∀ b, b ≠ a → b ≠ dx → H' b = H b) → Q .non H'
theorem pmk_oexN {X : Cx} {CX : CXT} {x : Str} {e : Expr} {es : List Expr} {ta : TA} {p pos : Pos} {C fI : Addr} {k : Nat} {fd : FuncData} {ps : List Str} {sp : Sp} (T : OexC X.K C) (iC : PySem.W.findIn X.K (.ref C) "__init__" = some (some (.ref fI))) (tI : PySem.W.typeIn X.K (.ref fI) = some (.type "function"))
    (F1 : FnOk X.prog X.w X.K X.mg X.base CX k fI fd ps sp) (hr : Room (k + 1) X.A) (hb : Binds X.K fd ps []) (hx : Passes CX X (fun _ _ _ => False)) (hg : Gl X x) (hm : X.mg x = some (.ref C)) (ha : PA X (e :: es) ta)
    (hdb : (x == ("__debug__" : Str)) = false) (he : starEach (e :: es) X.env = (false, eval e X.env) :: starEach es X.env) (hpl : (backTo pos (starEach es X.env)).any (·.1) = false) :
    L2N.PMk X (.Call (.Name x p) (e :: es) [] pos) (tMkO C sp [] ta) := by
  intro pins s σ H Q I h
  obtain ⟨nm, q, N, bs, bm, sn, sub, ab, col, dd, k0, k1, k2, k3, k5, hC, hbm⟩ := T.cls
  refine wpAny_Call_Name_kw (ld_glob I hg hm ?_ hdb)
  refine PySem.W.callWith_K (h₀ := X.base) I.ok.mod.kin T.kC (thn (ha.run pos pins s σ H _ I h) fun us s1 ⟨vs, H1, I1, r1, hz, q1⟩ => ⟨I1.kIn, ?_⟩) he hpl
  show wpAny _ _ (call (.ref C) us) _ _ _
  obtain ⟨hp, g, dr, tk, os⟩ := s1
  have hsz : hp.objs.size ≤ hp.objs.size + 1 := Nat.le_succ _
  have hn : H1 (hp.objs.size + 1) = none := I1.hok.fresh hsz
  have hq := q1 (hp.objs.size + 1) hn
  rw [List.append_nil] at hq
  have kk : ∀ b o, hp.get? b = some o → ((hp.push (PySem.W.kdv_tup us)).push (PySem.HandSPX.excO C hp.objs.size)).get? b = some o := fun b o e => Heap.get?_push_of_some _ (Heap.get?_push_of_some _ e)
  have hget : ((hp.push (PySem.W.kdv_tup us)).push (PySem.HandSPX.excO C hp.objs.size)).get? (hp.objs.size + 1) = some (PySem.HandSPX.excO C hp.objs.size) := by heap_get
  have I2 : Inv X pins σ (upd H1 (hp.objs.size + 1) (exo (hp.objs.size + 1) C none)) ⟨(hp.push (PySem.W.kdv_tup us)).push (PySem.HandSPX.excO C hp.objs.size), g, dr, tk, os⟩ :=
    I1.laid (t' := tk) (a := hp.objs.size + 1) (o := exo (hp.objs.size + 1) C none) (h' := (hp.push (PySem.W.kdv_tup us)).push (PySem.HandSPX.excO C hp.objs.size)) kk hsz (exo_ok hget)
  have r2 : Vals (V.ref (hp.objs.size + 1) :: vs) (Value.ref (hp.objs.size + 1) :: us) := .cons rfl r1
  have hl : (Value.ref (hp.objs.size + 1) :: us ++ []).length = ps.length := by
    have e := r2.length
    rw [F1.len _ _ _ _ hq] at e
    rw [List.append_nil]
    exact e.symm
  have b2 := hb _ (Value.ref (hp.objs.size + 1) :: us) I2.kIn hl
  rw [List.append_nil] at b2
  have hus : us.length ≤ sizeLine := by
    rw [← Paired.length r1, sizeLine_eq]
    omega
  refine wpAny_call (PySem.HandSPX.call_own F.excBase_ValueError (fun Y => PySem.HandSPX.refsVE_contains Y bm hbm) (I1.kIn _ _ hC) (PySem.W.looks_findIn I1.kIn iC) (fun self => PySem.W.bind_fn I1.kIn self tI) hus
    (codeAny_mono (F1.run _ X.stack _ _ ⟨Value.ref (hp.objs.size + 1) :: us, []⟩ (Value.ref (hp.objs.size + 1) :: us) _ _ (fun _ _ _ => False) (hr.make C us []) (I2.env0.make C us []) b2 r2 hq) fun r s' hq' => ?_))
  cases r with
  | error er => exact hx pins σ _ _ er s' I2 hq'
  | ok fl =>
    cases fl with
    | ret u =>
      obtain ⟨v, H2, os2, bare2, un2, hok2, rv, ev, d, fs, ea, ed, hd1, q2⟩ := hq'
      subst ev
      obtain ⟨h2, g2, d2, t2, os'⟩ := s'
      obtain ⟨t0, G, J, kG, ge, hoe, na⟩ := mk_end0 (d2 := d2) (t2 := t2) I1 hsz kk un2 hok2 os2 bare2 ea ed hd1
      refine ⟨rv, hp.objs.size + 1, _, _, ⟨G, g2, d2, t2, os'⟩, _, .ref C, some d, rfl, J, kG, ge, hoe, ⟨rfl, rfl, fun vs hv => ?_⟩, rfl, rfl, na, rfl, bare2, raises_own T.exC T.tyC, q2⟩
      cases hv
      rfl
    | next => exact False.elim hq'
    | brk => exact False.elim hq'
    | cont => exact False.elim hq'
/-- what is known of an own class that is raised -/
def RaiseAt (C : CT) (X : Cx) (x : Str) (c m : Nat) : Prop := m = (C.fld c).length ∧ ∃ k fI fd ps, X.mg x = some (.ref (C.cls c)) ∧ OexC X.K (C.cls c) ∧ PySem.W.findIn X.K (.ref (C.cls c)) "__init__" = some (some (.ref fI)) ∧ PySem.W.typeIn X.K (.ref fI) = some (.type "function") ∧
  FnOk X.prog X.w X.K X.mg X.base (L2N.CX X.prog X.w) k fI fd ps (initSp (C.cls c) (C.fld c)) ∧ Room (k + 1) X.A ∧ Binds X.K fd ps [] ∧ (C.fld c).length ≤ 1000 ∧ ∀ ws, ws.length = (C.fld c).length → FldsOf C c ((C.fld c).zip ws).reverse ws
/-- a def that is called within an except suite -/
def HFn (C : CT) (Γ : Nat → VSp) (X : Cx) (x : Str) (k : Nat) : Prop := ∃ lv f fd ps, FnX X.prog X.w X.K X.mg X.base (L2N.CX X.prog X.w) lv f fd ps (fun p => lift C (HotP C p) (Γ k)) ∧ Room lv X.A ∧ X.mg x = some (.ref f) ∧ PySem.W.keepIn X.K (.ref f) = true ∧ Binds X.K fd ps []
structure CtxS (C : CT) (Γ : Nat → VSp) (X : Cx) (cc : CC) (W : WP) : Prop extends Ctx C Γ X cc W where
  stk : X.stack = X.env :: X.outer
  frm : X.env.frame = some X.env.locals
  rs : cc.hot = false → ∀ x c m, cc.cons2.lookup x = some (c, m) → RaiseAt C X x c m
  hf : cc.hot = false → ∀ x k, cc.hfns.lookup x = some k → HFn C Γ X x k
section
variable {C : CT} {Γ : Nat → VSp} {X : Cx} {cc : CC} {W : WP}
theorem passN {X : Cx} : Passes (L2N.CX X.prog X.w) X (fun _ _ _ => False) := fun _ _ _ _ _ _ _ h => by
  obtain ⟨_, _, _, _, _, _, _, _, _, _, _, _, w⟩ := h
  exact w.elim
theorem k_rse (cx : CtxS C Γ X cc W) (hcold : cc.hot = false) {f : Expr → VE} (h : ∀ e, PE X e (tE C Γ W (f e))) {x : Str} {c m : Nat} {e : Expr} {es : List Expr} {p pos pos2 : Pos} (hg : cc.gl x = true) (hc : cc.cons2.lookup x = some (c, m)) (hs : noStars (e :: es) = true) :
    PS X (.Raise (some (.Call (.Name x p) (e :: es) [] pos)) none pos2) (tS C Γ W (.rse c m (mapE f (e :: es)))) := by
  obtain ⟨hml, k, fI, fd, ps, hm, T, iC, tI, F1, hr, hb, hlen, hfo⟩ := cx.rs hcold x c m hc
  have hs' := hs
  unfold noStars at hs'
  rw [List.all_cons, Bool.and_eq_true] at hs'
  refine ps_imp (L2N.ps_raise (cx.cold hcold).1 cx.tk (pmk_oexN T iC tI F1 hr hb passN (cx.glob hg) hm (s_args h hs) (okN_ok (CC.gl_okN hg)).1 (star_cons (by simpa using hs'.1)) (by rw [back_any]; exact star_plain hs'.2))) ?_
  rintro D σ H ⟨S, F0, H0, F, ρ, Dv, E, O, hw, hx, g⟩
  unfold wS at hw
  refine ⟨S, F0, H0, F, ρ, _, E, O, hw, hx, fun rs ρ1 vs F1 H1 O1 t1 q1 l1 hk => ?_⟩
  obtain ⟨lv, hk⟩ := lvs_iff.mp hk
  obtain ⟨hE, hl⟩ := hk
  rw [hml] at hl
  obtain ⟨F2, O2, t2, r2⟩ := freezes O1 q1 lv
  have hvl : vs.length = (C.fld c).length := by rw [r2.len, List.length_map, hl]
  refine ⟨by rw [hvl]; exact hlen, fun a ha => ?_⟩
  rw [List.append_nil]
  refine ⟨a, vs, rfl, hvl, upd_same, fun dx H' hd hda e1 e2 e3 => ⟨rfl, dx, _, e1, e2, ?_, ?_⟩⟩
  · rw [upd_ne hda] at hd; exact hd
  · have hd' : H1 dx = none := by rw [upd_ne hda] at hd; exact hd
    have eH : upd (del H' a) dx (.xd ((C.fld c).zip vs).reverse) = upd H1 dx (.xd ((C.fld c).zip vs).reverse) := by
      funext b
      by_cases hb1 : b = dx
      · subst hb1; rw [upd_same, upd_same]
      · rw [upd_ne hb1, upd_ne hb1]
        by_cases hb2 : b = a
        · subst hb2; rw [del_same, ha]
        · rw [del_ne hb2, e3 b hb2 hb1, upd_ne hb2]
    show W.w (.ref (C.cls c)) (some dx) σ (upd (del H' a) dx (.xd ((C.fld c).zip vs).reverse))
    rw [eH]
    have O3 := O2.newF hd' (.xd ((C.fld c).zip vs).reverse)
    exact hx.2 ⟨c, rs.map R.d⟩ _ _ _ σ _ _ O3 ⟨rfl, dx, _, vs, rfl, upd_same, hfo vs hvl, r2.mono (Sub.upd (O2.new hd').2.2)⟩ hE

/-! ### try -/
abbrev SG.wx (S : SG) (y : Option (Addr × Nat × Addr)) : SG := { S with x := y }
section
variable {S : SG} {y : Option (Addr × Nat × Addr)} {F0 H0 F H F' H' : Hp} {σ : L2.St} {ρ : En}
mutual
theorem Rep.sx (h : S.x = none) : ∀ (d : D) (v : V), Rep C S F d v → Rep C (S.wx y) F d v
  | .non, _, q => by unfold Rep at q ⊢; exact q
  | .bl _, _, q => by unfold Rep at q ⊢; exact q
  | .int _, _, q => by unfold Rep at q ⊢; exact q
  | .str _, _, q => by unfold Rep at q ⊢; exact q
  | .tok, _, q => by unfold Rep at q ⊢; exact q
  | .tup ds, _, q => by
    unfold Rep at q ⊢
    obtain ⟨a, vs, e, s, r⟩ := q
    exact ⟨a, vs, e, s, Reps.sx h ds vs r⟩
  | .lst ds, _, q => by
    unfold Rep at q ⊢
    obtain ⟨a, vs, e, s, r⟩ := q
    exact ⟨a, vs, e, s, Reps.sx h ds vs r⟩
  | .dic _, _, q => by unfold Rep at q; exact q.elim
  | .obj c fs, _, q => by
    unfold Rep at q ⊢
    obtain ⟨a, dx, vs, e, s, l, r⟩ := q
    exact ⟨a, dx, vs, e, s, l, Reps.sx h fs vs r⟩
  | .exn c fs, _, q => by
    unfold Rep at q
    obtain ⟨a, dx, fl, vs, e, _⟩ := q
    rw [h] at e
    cases e
theorem Reps.sx (h : S.x = none) : ∀ (ds : List D) (vs : List V), Reps C S F ds vs → Reps C (S.wx y) F ds vs
  | [], _, q => by unfold Reps at q ⊢; exact q
  | d :: ds, _, q => by
    unfold Reps at q ⊢
    obtain ⟨v, r, e, h1, h2⟩ := q
    exact ⟨v, r, e, Rep.sx h d v h1, Reps.sx h ds r h2⟩
end
mutual
theorem Rep.out : ∀ (d : D) (v : V), d.noX = true → Rep C (S.wx y) F d v → Rep C S F d v
  | .non, _, _, q => by unfold Rep at q ⊢; exact q
  | .bl _, _, _, q => by unfold Rep at q ⊢; exact q
  | .int _, _, _, q => by unfold Rep at q ⊢; exact q
  | .str _, _, _, q => by unfold Rep at q ⊢; exact q
  | .tok, _, _, q => by unfold Rep at q ⊢; exact q
  | .tup ds, _, h, q => by
    unfold D.noX at h
    unfold Rep at q ⊢
    obtain ⟨a, vs, e, s, r⟩ := q
    exact ⟨a, vs, e, s, Reps.out ds vs h r⟩
  | .lst ds, _, h, q => by
    unfold D.noX at h
    unfold Rep at q ⊢
    obtain ⟨a, vs, e, s, r⟩ := q
    exact ⟨a, vs, e, s, Reps.out ds vs h r⟩
  | .dic _, _, _, q => by unfold Rep at q; exact q.elim
  | .obj c fs, _, h, q => by
    unfold D.noX at h
    unfold Rep at q ⊢
    obtain ⟨a, dx, vs, e, s, l, r⟩ := q
    exact ⟨a, dx, vs, e, s, l, Reps.out fs vs h r⟩
  | .exn c fs, _, h, q => by unfold D.noX at h; cases h
theorem Reps.out : ∀ (ds : List D) (vs : List V), D.noXs ds = true → Reps C (S.wx y) F ds vs → Reps C S F ds vs
  | [], _, _, q => by unfold Reps at q ⊢; exact q
  | d :: ds, _, h, q => by
    unfold D.noXs at h
    rw [Bool.and_eq_true] at h
    unfold Reps at q ⊢
    obtain ⟨v, r, e, h1, h2⟩ := q
    exact ⟨v, r, e, Rep.out d v h.1 h1, Reps.out ds r h.2 h2⟩
end
theorem Own.sx {d : D} {a : Addr} (h : S.x = none) (o : Own C S H0 F H d a) : Own C (S.wx y) H0 F H d a := by
  obtain ⟨h0, f, hp, k⟩ := o
  refine ⟨h0, f, hp, ?_⟩
  cases d with
  | lst ds =>
    obtain ⟨vs, z, r⟩ := k
    exact ⟨vs, z, Reps.sx h _ _ r⟩
  | _ => exact k.elim
theorem Own.out {d : D} {a : Addr} (h : d.noX = true) (o : Own C (S.wx y) H0 F H d a) : Own C S H0 F H d a := by
  obtain ⟨h0, f, hp, k⟩ := o
  refine ⟨h0, f, hp, ?_⟩
  cases d with
  | lst ds =>
    obtain ⟨vs, z, r⟩ := k
    unfold D.noX at h
    exact ⟨vs, z, Reps.out _ _ h r⟩
  | _ => exact k.elim
theorem Sto.sx (s : Sto S F H) : Sto (S.wx y) F H := ⟨s.cells, s.free, s.len, s.st⟩
theorem Sto.out (s : Sto (S.wx y) F H) : Sto S F H := ⟨s.cells, s.free, s.len, s.st⟩
theorem OK.sx (h : S.x = none) (O : OK C S F0 H0 F H σ ρ) : OK C (S.wx y) F0 H0 F H σ ρ where
  sub := O.sub
  fr := O.fr
  p0 := O.p0
  f0 := O.f0
  fn := O.fn
  len := O.len
  val := fun i d e => by
    obtain ⟨v, e1, r⟩ := O.val i d e
    exact ⟨v, e1, Rep.sx h _ _ r⟩
  own := fun i d e => by
    obtain ⟨a, e1, o⟩ := O.own i d e
    exact ⟨a, e1, o.sx h⟩
  dis := O.dis
  sto := O.sto.sx
theorem OK.out (h : noX ρ) (O : OK C (S.wx y) F0 H0 F H σ ρ) : OK C S F0 H0 F H σ ρ where
  sub := O.sub
  fr := O.fr
  p0 := O.p0
  f0 := O.f0
  fn := O.fn
  len := O.len
  val := fun i d e => by
    obtain ⟨v, e1, r⟩ := O.val i d e
    exact ⟨v, e1, Rep.out _ _ (h _ (List.mem_of_getElem? e)) r⟩
  own := fun i d e => by
    obtain ⟨a, e1, o⟩ := O.own i d e
    exact ⟨a, e1, o.out (h _ (List.mem_of_getElem? e))⟩
  dis := O.dis
  sto := O.sto.out
end
theorem Ctx.kindOf (cx : Ctx C Γ X cc W) {x : Str} {k : NameKind} (h : cc.kind x = some k) : X.env.kindOf x = some k := by
  unfold Env.kindOf
  rw [cx.sc]
  exact h
theorem Ctx.trC (cx : CtxS C Γ X cc W) (pn : List (Addr × Obj)) (xe : Value → Shared → Prop) (W' : WP) (hcold : cc.hot = false) (hw : W'.ok = Cold) (tk : L2N.Takes (X.tr pn xe) W'.w) (po : PassesOwn (model X.prog X.w) X.A X.env xe) : CtxS C Γ (X.tr pn xe) cc W' where
  hN := cx.hN
  sc := cx.sc
  fn := cx.fn
  nd := cx.nd
  K := cx.K
  cold := fun h => ⟨(cx.cold h).1, hw⟩
  hot := fun h => by rw [hcold] at h; cases h
  fl := cx.fl
  ix := cx.ix
  un := cx.un
  tk := tk
  po := po
  fns := cx.fns
  cons := cx.cons
  blt := cx.blt
  stk := cx.stk
  frm := cx.frm
  rs := cx.rs
  hf := cx.hf
theorem Ctx.suiteC (cx : CtxS C Γ X cc W) (hcold : cc.hot = false) {a : Addr} {oe : Obj} {cls : Value} {d : Option Addr} (pn : List (Addr × Obj)) (zn : L2N.Zn cls d oe) (hf : ∃ vs, oe.data = .fields vs) :
    CtxS C Γ (X.suite a ((a, oe) :: pn)) cc.heat ⟨fun _ _ _ _ => False, HotA C a cls d⟩ where
  hN := cx.hN
  sc := cx.sc
  fn := cx.fn
  nd := cx.nd
  K := cx.K
  cold := fun h => absurd (show true = false from h) (by decide)
  hot := fun _ => ⟨(a, oe), cls, d, List.mem_cons_self, zn, hf, rfl, rfl⟩
  fl := cx.fl
  ix := cx.ix
  un := cx.un
  tk := takesN0
  po := PassesOwn.never
  fns := fun x k h => by
    obtain ⟨lv, f, fd, ps, F, hr, r⟩ := cx.hf hcold x k h
    exact ⟨lv, f, fd, ps, (fun z => absurd (show true = false from z) (by decide)), fun _ => ⟨F, hr.dp, hr.un⟩, r⟩
  cons := cx.cons
  blt := cx.blt
  stk := cx.stk
  frm := cx.frm
  rs := fun h => absurd (show true = false from h) (by decide)
  hf := fun h => absurd (show true = false from h) (by decide)
theorem k_tryA (cx : CtxS C Γ X cc W) (hcold : cc.hot = false) {x y : Str} {np pos pos' : Pos} {body su : List Stmt} {b : Stmt} {vb vs : VSs} {i : Nat} {tab : List (Nat × Bool)} (hg : cc.gl x = true) (hk : cc.kind y = some .local) (hi : ixOf y cc.N = some i) (ht : cc.isx.lookup x = some tab)
    (hb : ∀ {X : Cx} {W : WP}, CtxS C Γ X cc W → PSs X body (tSs C Γ W vb)) (hs : ∀ {X : Cx} {W : WP}, CtxS C Γ X cc.heat W → PSs X (b :: su) (tSs C Γ W vs)) :
    PS X (.Try body [.ExceptHandler (some (.Name x np)) (some y) (b :: su) pos'] [] [] pos) (tS C Γ W (.tryA i tab vb vs)) := by
  obtain ⟨v, cv, hrel, hmean, htab⟩ := cx.ix x tab ht
  refine ps_imp (L2N.ps_try_as (X := X) (c := cv) (i := i) (Wout := W.w) (tb := fun w => tSs C Γ ⟨w, Cold⟩ vb) (ts := fun a cls d => tSs C Γ ⟨fun _ _ _ _ => False, HotA C a cls d⟩ vs) cx.stk cx.frm cx.nd (cx.slot hi) (cx.kindOf hk) ⟨cx.glob hg, (okN_ok (CC.gl_okN hg)).1, hmean⟩ cx.tk
    (fun w pn xe tk po => hb (Ctx.trC cx pn xe ⟨w, Cold⟩ hcold rfl tk po)) (fun a oe cls d pn zn hf => hs (Ctx.suiteC cx hcold pn zn hf))) ?_
  rintro D σ H ⟨S, F0, H0, F, ρ, Dv, E, O, hw, hx, g⟩
  have hS : S.x = none := by
    have := hx.1
    rw [(cx.cold hcold).2] at this
    exact this
  unfold wS at hw
  refine ⟨S, F0, H0, F, ρ, Dv, _, O, hw, ⟨hS, fun e ρ1 F1 H1 σ1 cls dx O1 ea hE => ?_⟩, g⟩
  obtain ⟨z, hz, hyes, hno⟩ := hE
  obtain ⟨T, k1, k2⟩ := htab _ _ hz
  obtain ⟨e1, d, fl, us, e2, e3, e4, e5⟩ := id ea
  refine ⟨z, by rw [e1]; exact k2, fun hz a ha => ?_, fun hz => hx.2 e ρ1 F1 H1 σ1 cls dx O1 ea (hno hz)⟩
  have O2 : OK C (S.wx (some (a, e.cls, d))) F0 H0 F1 H1 σ1 ρ1 := O1.sx hS
  have O3 := O2.setVal i (d := .exn e.cls e.fs) (v := .ref a) (by
    unfold Rep
    exact ⟨a, d, fl, us, rfl, rfl, e3, e4, Reps.sx hS _ _ e5⟩)
  refine ⟨S.wx (some (a, e.cls, d)), F0, H0, F1, _, _, _, O3, hyes hz, ⟨⟨e.cls, d, rfl, e1, e2⟩, fun _ _ _ _ _ _ _ _ _ z => z.elim⟩, ⟨?_, ?_, ?_, ?_⟩⟩
  · rintro σ' ρ' F' H' O' ⟨n1, n2⟩
    exact g.nx _ _ _ _ ((O'.none1 i).out n1) n2
  · rintro σ' ρ' F' H' O' ⟨n1, n2⟩
    exact g.bk _ _ _ _ ((O'.none1 i).out n1) n2
  · rintro σ' ρ' F' H' O' ⟨n1, n2⟩
    exact g.ct _ _ _ _ ((O'.none1 i).out n1) n2
  · rintro o d' v' F' H' e' r' ⟨n1, n2⟩
    refine g.rt o d' v' F' H' ⟨e'.f, e'.sub, e'.fr, e'.fn, e'.sto.out⟩ ?_ n2
    unfold Res at r' ⊢
    cases o with
    | true =>
      obtain ⟨b', q1, q2⟩ := r'
      exact ⟨b', q1, q2.out n1⟩
    | false => exact Rep.out _ _ n1 r'
end
end VL
set_option maxHeartbeats 4000000
/-! VLm: every statement; defs. -/
namespace VL
open PySem PySem.Spec PyProof.Rows L2
section
variable {C : CT} {Γ : Nat → VSp}
theorem swaps_name {elt : Expr} {gens : List Comprehension} {scope : Scope} {pos : Pos} {t : Str} {p : Pos} {l : Nat} {env : PySem.Env} :
    ∃ b : Bool, swapsWith (.ListComp elt gens scope pos) (some (.Name t p)) l env = pure b ∧ (b = true → env.scope.names.lookup t = some .local) := by
  refine ⟨_, rfl, fun h => ?_⟩
  simp only [Bool.and_eq_true] at h
  exact eq_of_beq h.1.1.2
theorem k_asgLc {X : Cx} {cc : CC} {W : WP} (cx : CtxS C Γ X cc W) {n i : Nat} {x : Str} {p pos : Pos} {e : Expr} (hs : X.N[i]? = some x) (hl : Loc X.env.scope x) (hf : X.fn x = true ∨ X.env.scope.names.lookup x = some .local) (hE : PE X e (tE C Γ W (cE n cc e))) (ih : ∀ m, n = m + 1 → AllE C Γ m)
    (hc : ∃ a b c d, e = .ListComp a b c d) : PS X (.Assign [.Name x p] e pos) (tS C Γ W (.asg (.nm i) (cE n cc e))) := by
  obtain ⟨elt, gens, scope, cpos, rfl⟩ := hc
  obtain ⟨b, hsw, hb⟩ := swaps_name (elt := elt) (gens := gens) (scope := scope) (pos := cpos) (t := x) (p := p) (l := pos.line) (env := X.env)
  cases b with
  | false => exact k_asg (tg := .Name x p) (e := .Name x p) (ps_set cx.nd hs hl hE hsw hf) gName_imp
  | true =>
    have bad : ∀ {s : Stmt}, PS X s (tS C Γ W (.asg (.nm i) .bad)) := ⟨fun pins st σ H D I q => by
      obtain ⟨S, F0, H0, F, ρ, Dv, E, O, hw, hx, gg⟩ := q
      unfold wS wE at hw
      exact hw.elim⟩
    cases n with
    | zero =>
      have e0 : cE 0 cc (.ListComp elt gens scope cpos) = .bad := by unfold cE; rfl
      rw [e0]
      exact bad
    | succ m =>
      unfold cE
      split <;> rename_i he <;> first | (cases he; done) | skip
      · cases he
        split
        · exact k_asg (tg := .Name x p) (e := .Name x p) ((comp_of (ih m rfl) cx.toCtx ‹_›).2 i x p pos hs (hb rfl) hsw) gName_imp
        · exact bad
      · exact bad
theorem swaps_plain {e : Expr} {t : Option Expr} {l : Nat} {env : PySem.Env} (h1 : ∀ a b c d, e ≠ .ListComp a b c d) (h2 : ∀ a b c d, e ≠ .SetComp a b c d) (h3 : ∀ a b c d f, e ≠ .DictComp a b c d f) : swapsWith e t l env = pure false := by
  cases e <;> first | rfl | exact absurd rfl (h1 _ _ _ _) | exact absurd rfl (h2 _ _ _ _) | exact absurd rfl (h3 _ _ _ _ _)
theorem swaps_tup {e : Expr} {gs : List Expr} {k : Nat} {p : Pos} {l : Nat} {env : PySem.Env} : swapsWith e (some (.Tuple gs k p)) l env = pure false := by
  cases e <;> rfl
theorem stores_tup {e : Expr} {gs : List Expr} {k : Nat} {p : Pos} {env : PySem.Env} (h : ∀ a b c, e ≠ .Tuple a b c) : swappedStores [.Tuple gs k p] e env = pure none := by
  cases e <;> first | rfl | exact absurd rfl (h _ _ _)
def AllS (C : CT) (Γ : Nat → VSp) (n : Nat) : Prop := ∀ (X : Cx) (cc : CC) (W : WP), CtxS C Γ X cc W → ∀ s, PS X s (tS C Γ W (cS n cc s))
theorem name_slot {X : Cx} {cc : CC} {W : WP} (cx : Ctx C Γ X cc W) {n : Nat} {x : Str} {p : Pos} : cG n cc (.Name x p) = .bad ∨ ∃ i, cG n cc (.Name x p) = .nm i ∧ X.N[i]? = some x ∧ Loc X.env.scope x ∧ (X.fn x = true ∨ X.env.scope.names.lookup x = some .local) := by
  cases n with
  | zero => exact .inl rfl
  | succ n =>
    unfold cG
    split
    · rename_i hp
      split
      · rename_i i hi
        refine .inr ⟨i, rfl, cx.slot hi, ?_⟩
        unfold CC.put CC.kind at hp
        rw [cx.sc, cx.fn]
        split at hp
        · exact ⟨.inl ‹_›, .inr ‹_›⟩
        · exact ⟨.inr ‹_›, .inl hp⟩
        · cases hp
      · exact .inl rfl
    · exact .inl rfl

theorem allS : ∀ n, AllS C Γ n
  | 0 => fun X cc W cx s => by unfold cS; exact ps_bad
  | n + 1 => fun X cc W cx s => by
    have ih := allS n
    have hE : ∀ e, PE X e (tE C Γ W (cE n cc e)) := (allE n).1 cx.toCtx
    have hC : ∀ e, PT X e (tCo C Γ W (cC n cc e)) := (allE n).2.1 cx.toCtx
    have hI : ∀ g e, PI X g e (tI C Γ W (cI n cc g e)) := (allE n).2.2 cx.toCtx
    unfold cS
    split
    · exact k_pass
    · exact k_brk
    · exact k_cnt
    · exact k_retN
    · exact k_ret (hE _)
    · split
      · exact k_doc
      · exact ps_bad
      · exact ps_bad
      · exact ps_bad
      · exact ps_bad
      · rename_i e pos h1 h2 h3 h4 h5
        exact k_ex (swaps_plain (fun a b c d z => h3 _ _ _ _ z) (fun a b c d z => h4 _ _ _ _ z) (fun a b c d f z => h5 _ _ _ _ _ z)) (hE _)
    · split
      · exact ps_bad
      · exact ps_bad
      · exact ps_bad
      · rename_i e pos g' e' gs k p h1 h2 h3
        exact k_asg (e := e) (tg := e) (ps_asg (hE _) (s_g cx.toCtx n _) (swaps_tup (e := e) (gs := gs) (k := k) (p := p) (l := pos.line) (env := X.env)) (stores_tup fun a b c z => h2 _ _ _ z)) fun v σ H Q q => q
      · rename_i e pos g' e' x p
        split
        · rename_i i hi
          rcases name_slot cx.toCtx (n := n) (x := x) (p := p) with hb | ⟨i', e1, hs, hl, hf⟩
          · rw [hb] at hi; cases hi
          · rw [e1] at hi
            cases hi
            by_cases hc : ∃ a b c d, e = .ListComp a b c d
            · exact k_asgLc cx hs hl hf (hE _) (fun m _ => allE m) hc
            · by_cases hc2 : (∃ a b c d, e = .SetComp a b c d) ∨ ∃ a b c d f, e = .DictComp a b c d f
              · have eb : cE n cc e = .bad := by
                  rcases hc2 with ⟨_, _, _, _, rfl⟩ | ⟨_, _, _, _, _, rfl⟩ <;> (cases n <;> (unfold cE; rfl))
                rw [eb]
                exact ⟨fun pins st σ H D I q => by
                  obtain ⟨S, F0, H0, F, ρ, Dv, E, O, hw, hx, gg⟩ := q
                  unfold wS wE at hw
                  exact hw.elim⟩
              · exact k_asg (tg := .Name x p) (e := .Name x p) (ps_set cx.nd hs hl (hE _) (swaps_plain (fun a b c d z => hc ⟨a, b, c, d, z⟩) (fun a b c d z => hc2 (.inl ⟨a, b, c, d, z⟩)) (fun a b c d f z => hc2 (.inr ⟨a, b, c, d, f, z⟩))) hf) gName_imp
        · exact ps_bad
      · exact ps_bad
    · split
      · rename_i h
        rw [Bool.and_eq_true] at h
        split
        · exact k_aug cx.toCtx h.1 h.2 ‹_› (hE _)
        · exact ps_bad
      · exact ps_bad
    · exact k_if (hC _) (k_list (fun s => ih _ _ _ cx s) _) (k_list (fun s => ih _ _ _ cx s) _)
    · split
      · exact ps_bad
      · rename_i h
        simp only [Bool.or_eq_true, not_or, Bool.not_eq_true] at h
        exact k_for cx.toCtx h.2 h.1 (hI _ _) (s_g cx.toCtx n _) (k_list (fun s => ih _ _ _ cx s) _)
    · split
      · exact ps_bad
      · rename_i h
        simp only [Bool.or_eq_true, not_or, Bool.not_eq_true, Bool.not_eq_true', Bool.not_eq_false] at h
        split
        · exact k_rse cx h.1.1 hE h.1.2 ‹_› h.2
        · exact ps_bad
    · split
      · exact ps_bad
      · rename_i h
        simp only [Bool.or_eq_true, not_or, Bool.not_eq_true, Bool.not_eq_true', Bool.not_eq_false, decide_eq_false_iff_not, Decidable.not_not] at h
        split
        · exact k_tryA cx h.1.1 h.1.2 h.2 ‹_› ‹_› (fun cx => k_list (fun s => ih _ _ _ cx s) _) (fun cx => k_list (fun s => ih _ _ _ cx s) _)
        · exact ps_bad
    · exact k_whl cx.toCtx (hC _) (k_list (fun s => ih _ _ _ cx s) _)
    · exact ps_bad
end
end VL
set_option maxHeartbeats 4000000
/-! VLn: defs keep their promises. -/
namespace VL
open PySem PySem.Spec PyProof.Rows L2
def startV (N : List Str) (ds : List D) : En := ds.map .val ++ List.replicate (N.length - ds.length) .un
/-- a def with its promise, of the level lv -/
def Fct (C : CT) (Γ : Nat → VSp) (P : Program) (w : World) (K : PySem.W.Frag) (mg : Str → Option Value) (base : Heap) (x : Str) (k lv : Nat) : Prop := ∃ f fd ps, FnOk P w K mg base (L2N.CX P w) lv f fd ps (lift C Cold (Γ k)) ∧ mg x = some (.ref f) ∧ PySem.W.keepIn K (.ref f) = true ∧ Binds K fd ps []
/-- .. called within an except suite -/
def FctX (C : CT) (Γ : Nat → VSp) (P : Program) (w : World) (K : PySem.W.Frag) (mg : Str → Option Value) (base : Heap) (x : Str) (k lv : Nat) : Prop := ∃ f fd ps, FnX P w K mg base (L2N.CX P w) lv f fd ps (fun p => lift C (HotP C p) (Γ k)) ∧ mg x = some (.ref f) ∧ PySem.W.keepIn K (.ref f) = true ∧ Binds K fd ps []
def ConV (C : CT) (mg : Str → Option Value) (x : Str) (d : D) : Prop := ∃ v u, mg x = some u ∧ RelV v u ∧ ∀ S F, Rep C S F d v
def IsV (C : CT) (mg : Str → Option Value) (t : Str) (tab : List (Nat × Bool)) : Prop := ∃ (v : V) (cv : Value), (∀ u, RelV v u ↔ u = cv) ∧ (mg t = some cv ∨ (mg t = none ∧ bootBuiltins t = some cv ∧ t ≠ ("__name__" : Str))) ∧
  ∀ c b, tab.lookup c = some b → ExcC C.K (C.cls c) ∧ PySem.W.kitOne C.K (.ref (C.cls c)) cv = some b ∧ PySem.W.exmOne C.K (.ref (C.cls c)) cv = some b
def RaiseV (C : CT) (P : Program) (w : World) (mg : Str → Option Value) (base : Heap) (x : Str) (c m lv : Nat) : Prop := m = (C.fld c).length ∧ ∃ li fI fd ps, li + 1 ≤ lv ∧ mg x = some (.ref (C.cls c)) ∧ OexC C.K (C.cls c) ∧ PySem.W.findIn C.K (.ref (C.cls c)) "__init__" = some (some (.ref fI)) ∧ PySem.W.typeIn C.K (.ref fI) = some (.type "function") ∧
  FnOk P w C.K mg base (L2N.CX P w) li fI fd ps (initSp (C.cls c) (C.fld c)) ∧ Binds C.K fd ps [] ∧ (C.fld c).length ≤ 1000 ∧ ∀ ws, ws.length = (C.fld c).length → FldsOf C c ((C.fld c).zip ws).reverse ws
/-- what is known of the module, for a def whose callees are of the level lv -/
structure Mod (C : CT) (Γ : Nat → VSp) (P : Program) (w : World) (mg : Str → Option Value) (base : Heap) (cc : CC) (lv : Nat) : Prop where
  fns : cc.hot = false → ∀ x k, cc.fns.lookup x = some k → Fct C Γ P w C.K mg base x k lv
  fnsX : cc.hot = true → ∀ x k, cc.fns.lookup x = some k → FctX C Γ P w C.K mg base x k lv
  cons : ∀ x d, cc.cons.lookup x = some d → ConV C mg x d
  blt : ∀ x ∈ cc.blt, mg x = none
  fl : ∀ f t c i, cc.flds.lookup f = some t → t.lookup c = some i → (C.fld c)[i]? = some f ∧ XfC C.K (C.cls c) ∧ PySem.W.findIn C.K (.ref (C.cls c)) f = some none
  ix : ∀ t tab, cc.isx.lookup t = some tab → IsV C mg t tab
  rs : cc.hot = false → ∀ x c m, cc.cons2.lookup x = some (c, m) → RaiseV C P w mg base x c m lv
  hf : cc.hot = false → ∀ x k, cc.hfns.lookup x = some k → FctX C Γ P w C.K mg base x k lv
section
variable {C : CT} {Γ : Nat → VSp} {P : Program} {w : World} {mg : Str → Option Value} {base : Heap} {cc : CC} {lv : Nat}
theorem ok_start {S : SG} {F H : Hp} {N : List Str} {ds : List D} {vs : List V} (hs : Sub F H) (st : Sto S F H) (r : Reps C S F ds vs) (hl : vs.length ≤ N.length) : OK C S F H F H (L2.start N vs) (startV N ds) where
  sub := hs
  fr := fun _ _ _ h => h
  p0 := st.has
  f0 := Sub.refl F
  fn := fun _ _ h => .inl h
  len := by
    unfold startV L2.start
    rw [List.length_append, List.length_append, List.length_map, List.length_map, List.length_replicate, List.length_replicate, r.len]
  val := fun i d h => by
    unfold startV at h
    by_cases hi : i < (ds.map Slot.val).length
    · rw [List.getElem?_append_left hi, List.getElem?_map] at h
      cases q : ds[i]? with
      | none => rw [q] at h; cases h
      | some e =>
        rw [q] at h
        cases h
        obtain ⟨v, hv, rv⟩ := r.at q
        refine ⟨v, ?_, rv⟩
        unfold L2.start
        rw [List.getElem?_append_left (by rw [List.length_map, r.len]; rw [List.length_map] at hi; exact hi), List.getElem?_map, hv] <;> rfl
    · rw [List.getElem?_append_right (by omega), List.getElem?_replicate] at h
      split at h <;> cases h
  own := fun i d h => by
    unfold startV at h
    by_cases hi : i < (ds.map Slot.val).length
    · rw [List.getElem?_append_left hi, List.getElem?_map] at h
      cases q : ds[i]? with
      | none => rw [q] at h; cases h
      | some e => rw [q] at h; cases h
    · rw [List.getElem?_append_right (by omega), List.getElem?_replicate] at h
      split at h <;> cases h
  dis := fun i j d e a h => by
    unfold startV at h
    by_cases hi : i < (ds.map Slot.val).length
    · rw [List.getElem?_append_left hi, List.getElem?_map] at h
      cases q : ds[i]? with
      | none => rw [q] at h; cases h
      | some e => rw [q] at h; cases h
    · rw [List.getElem?_append_right (by omega), List.getElem?_replicate] at h
      split at h <;> cases h
  sto := st
/-- a def of the text keeps its promise -/
theorem fn_vl {k fuel : Nat} {x qual : Str} {params : Arguments} {body : List Stmt} {f : Addr} {fd : FuncData} {ps : List Str} {ir : VSs} (M : Mod C Γ P w mg base cc lv) (F : FunD C.K x qual params body cc.sc [] [] f fd) (Sc : FnScope cc.N ps cc.sc) (hfn : cc.fn = fun _ => true) (hcold : cc.hot = false)
    (hir : mapS (cS fuel cc) body = ir) (harg : ∀ x : (Γ k).α, ((Γ k).arg x).length = ps.length)
    (hval : ∀ x : (Γ k).α, (Γ k).pre x → wSs Γ ir (startV cc.N ((Γ k).arg x)) { nx := fun _ => (Γ k).post x false .non, rt := (Γ k).post x } fun e _ => (Γ k).exc x e) :
    FnOk P w C.K mg base (L2N.CX P w) (lv + 1) f fd ps (lift C Cold (Γ k)) := by
  have hps : ps.length ≤ cc.N.length := by have := congrArg List.length Sc.pre; rw [List.length_take] at this; omega
  refine F.ok Sc (fun vs H Q E h => ?_) (fun cdv A outer s H vs Q E hr h => ?_)
  · obtain ⟨S, Fz, y, _, _, _, r, _⟩ := h
    rw [r.len, harg]
  · obtain ⟨S, Fz, y, hc, hs, st, r, hp, hq, he⟩ := h
    have cx : CtxS C Γ (cxOf (L2N.CX P w) P w C.K mg base cc.N qual cc.sc f cdv A outer s H E) cc ⟨fun cls d _ H => E cls d H, Cold⟩ := {
      hN := rfl
      sc := rfl
      fn := by rw [hfn] <;> rfl
      nd := Sc.nd
      K := rfl
      cold := fun _ => ⟨rfl, rfl⟩
      hot := fun z => by rw [hcold] at z; cases z
      fl := M.fl
      ix := M.ix
      un := by have := hr.un; show (A.deeper _).units + 64 < cLine; omega
      tk := L2N.takes_of rfl rfl rfl rfl
      po := passes_of (K := fun e s' => L2N.CX P w outer H s E e s') rfl
      fns := fun z j hz => by
        obtain ⟨g, gd, qs, G, g1, g2, g3⟩ := M.fns hcold z j hz
        exact ⟨lv, g, gd, qs, fun _ => ⟨G, hr⟩, (fun z => by rw [hcold] at z; cases z), g1, g2, g3⟩
      cons := M.cons
      blt := M.blt
      stk := rfl
      frm := rfl
      rs := fun _ z c m hz => by
        obtain ⟨e1, li, fI, gd, qs, e0, e2, e3, e4, e5, e6, e7, e8, e9⟩ := M.rs hcold z c m hz
        exact ⟨e1, li, fI, gd, qs, e2, e3, e4, e5, e6, hr.mono e0, e7, e8, e9⟩
      hf := fun _ z j hz => by
        obtain ⟨g, gd, qs, G, g1, g2, g3⟩ := M.hf hcold z j hz
        exact ⟨lv, g, gd, qs, G, hr, g1, g2, g3⟩ }
    refine ⟨tSs C Γ ⟨fun cls d _ H => E cls d H, Cold⟩ (mapS (cS fuel cc) body), k_list (fun s => allS fuel _ _ _ cx s) body, ?_⟩
    rw [hir]
    refine ⟨S, Fz, H, Fz, _, _, _, ok_start hs st r (by rw [r.len, harg]; exact hps), hval y hp, ⟨hc, ?_⟩, ?_⟩
    · intro e ρ F1 H1 σ cls d O1 ea hE
      exact he e cls d F1 H1 hE O1.ext ea
    · refine ⟨fun σ ρ F1 H1 O1 hE => hq false .non .non F1 H1 hE O1.ext (rep_non (C := C) (S := S) (F := F1)), fun _ _ _ _ _ z => z.elim, fun _ _ _ _ _ z => z.elim, fun o d v F1 H1 hE hR hp => hq o d v F1 H1 hp hE hR⟩

/-! ### a def called while an exception is handled -/
theorem fn_ofX {CX : CXT} {K : PySem.W.Frag} {k : Nat} {f : Addr} {name qual : Str} {params : Arguments} {body : List Stmt} {scope : Scope} {dV kV doc pm cdv ct oc : Value} {an od : Option Addr}
    {osl : Array (Option Value)} {N ps : List Str} {sp : Addr × Obj → Sp} (lk : K.lookup f = some ⟨oc, od, .func (PySem.W.fnOf name qual params body scope dV kV doc pm an cdv ct), osl⟩) (hcd : PySem.W.codeIn K cdv qual = true) (Sc : FnScope N ps scope)
    (len : ∀ p vs H Q E, sp p vs H Q E → vs.length = ps.length)
    (hbody : ∀ (A : Around) (outer : List Env) (s : Shared) (H : Hp) (vs : List V) (Q : VK) (E : L2.XK) (p : Addr × Obj), L2H.Hot1 A p → L2H.RoomH k (A.deeper (envOfC qual scope s.heap.objs.size f cdv)) → sp p vs H Q E →
      ∃ t, PSs (L2H.cxH CX P w K mg base N qual scope f cdv A outer s H E p) body t ∧ t { nx := fun _ H' => Q .non H', rt := Q } (L2.start N vs) H) :
    FnX P w K mg base CX (k + 1) f (PySem.W.fnOf name qual params body scope dV kV doc pm an cdv ct) ps sp := by
  refine ⟨len, fun A outer s H args us vs Q E p hr hot hpin e0 hb r hsp => ?_⟩
  have hl := len _ _ _ _ _ hsp
  have KX : K.In s.heap := e0.mod.kin.keeps fun b o e => (e0.bs b o e).1
  have lim : s.heap.NoLimit := e0.mod.nolimit.keeps fun b o e => (e0.bs b o e).1
  have hkind : ∀ y ∈ ps.zip us, scope.names.lookup y.1 = some .local ∨ (scope.names.lookup y.1 = some .cell ∧ ((cellsFrom (s.heap.objs.size + 1) scope.names []).lookup y.1).isSome = true) := fun ⟨n, v⟩ hy => by
    rcases Sc.par n (List.of_mem_zip hy).1 with q | q
    · exact .inl q
    · exact .inr ⟨q, PySem.W.cellsFrom_some _ _ _ (.inl q)⟩
  refine codeAny_call_function hr.depth (KX _ _ lk) rfl Sc.co Sc.gen rfl (PySem.W.codeRec_of KX hcd) (hb _ _ _ _ ?_)
  refine wpAny_newFunctionEnv_cells Sc.kind hkind fun env he s1 x => ?_
  subst he
  refine ⟨lim.keeps x.toInCall.keep, codeAny_func ?_⟩
  obtain ⟨t, ht, hq⟩ := hbody A outer s H vs Q E p hot (hr.deeper _) hsp
  have I : Inv (L2H.cxH CX P w K mg base N qual scope f cdv A outer s H E p) [] (L2.start N vs) H s1 := L2H.inv_startH Sc hpin e0 hl r x
  refine wpAny_mono (ht.run [] s1 (L2.start N vs) H _ I hq) (fun fl s' hs => ?_) fun e s' hs => hs
  have fin : ∀ {σ' : L2.St} {H' : Hp} {v : V} {u : Value}, Inv (L2H.cxH CX P w K mg base N qual scope f cdv A outer s H E p) [] σ' H' s' → RelV v u → Q v H' → CE outer P w H s Q u s' :=
    fun {σ' H' v u} J rv q => ⟨v, H', J.os, J.bare, J.base, J.hok, rv, q⟩
  cases fl with
  | ret u =>
    obtain ⟨v, σ', H', J, rv, q⟩ := hs
    exact fin J rv q
  | next =>
    obtain ⟨σ', H', J, q⟩ := hs
    exact fin (v := V.non) (u := Value.none) J rfl q
  | brk =>
    obtain ⟨_, _, _, q⟩ := hs
    exact False.elim q
  | cont =>
    obtain ⟨_, _, _, q⟩ := hs
    exact False.elim q
theorem fn_vlX {k fuel : Nat} {x qual : Str} {params : Arguments} {body : List Stmt} {f : Addr} {fd : FuncData} {ps : List Str} {ir : VSs} (M : Mod C Γ P w mg base cc lv) (F : FunD C.K x qual params body cc.sc [] [] f fd) (Sc : FnScope cc.N ps cc.sc) (hfn : cc.fn = fun _ => true) (hh : cc.hot = true)
    (hir : mapS (cS fuel cc) body = ir) (harg : ∀ x : (Γ k).α, ((Γ k).arg x).length = ps.length)
    (hval : ∀ x : (Γ k).α, (Γ k).pre x → wSs Γ ir (startV cc.N ((Γ k).arg x)) { nx := fun _ => (Γ k).post x false .non, rt := (Γ k).post x } fun e _ => (Γ k).exc x e) :
    FnX P w C.K mg base (L2N.CX P w) (lv + 1) f fd ps (fun p => lift C (HotP C p) (Γ k)) := by
  have hps : ps.length ≤ cc.N.length := by have := congrArg List.length Sc.pre; rw [List.length_take] at this; omega
  obtain ⟨oc, od, dV, kV, doc, pm, an, cdv, ct, osl, rfl, lk, hcd, _, _⟩ := F.ex
  refine fn_ofX lk hcd Sc (fun p vs H Q E h => ?_) (fun A outer s H vs Q E p hot hr h => ?_)
  · obtain ⟨S, Fz, y, _, _, _, r, _⟩ := h
    rw [r.len, harg]
  · obtain ⟨S, Fz, y, ⟨c, dx, hx1, zn, hfv⟩, hs, st, r, hp, hq, he⟩ := h
    have cx : CtxS C Γ (L2H.cxH (L2N.CX P w) P w C.K mg base cc.N qual cc.sc f cdv A outer s H E p) cc ⟨fun cls d _ H => E cls d H, HotA C p.1 (.ref (C.cls c)) (some dx)⟩ := {
      hN := rfl
      sc := rfl
      fn := by rw [hfn] <;> rfl
      nd := Sc.nd
      K := rfl
      cold := fun z => by rw [hh] at z; cases z
      hot := fun _ => ⟨p, .ref (C.cls c), some dx, List.mem_cons_self, zn, hfv, hot.1, rfl⟩
      fl := M.fl
      ix := M.ix
      un := by have := hr.un; show (A.deeper _).units + 64 < cLine; omega
      tk := L2N.takes_of rfl rfl rfl rfl
      po := passes_of (K := fun e s' => L2N.CX P w outer H s E e s') rfl
      fns := fun z j hz => by
        obtain ⟨g, gd, qs, G, g1, g2, g3⟩ := M.fnsX hh z j hz
        exact ⟨lv, g, gd, qs, (fun z => by rw [hh] at z; cases z), fun _ => ⟨G, hr⟩, g1, g2, g3⟩
      cons := M.cons
      blt := M.blt
      stk := rfl
      frm := rfl
      rs := fun z => by rw [hh] at z; cases z
      hf := fun z => by rw [hh] at z; cases z }
    refine ⟨tSs C Γ ⟨fun cls d _ H => E cls d H, HotA C p.1 (.ref (C.cls c)) (some dx)⟩ (mapS (cS fuel cc) body), k_list (fun s => allS fuel _ _ _ cx s) body, ?_⟩
    rw [hir]
    refine ⟨S, Fz, H, Fz, _, _, _, ok_start hs st r (by rw [r.len, harg]; exact hps), hval y hp, ⟨⟨c, dx, hx1, rfl, rfl⟩, ?_⟩, ?_⟩
    · intro e ρ F1 H1 σ cls d O1 ea hE
      exact he e cls d F1 H1 hE O1.ext ea
    · refine ⟨fun σ ρ F1 H1 O1 hE => hq false .non .non F1 H1 hE O1.ext (rep_non (C := C) (S := S) (F := F1)), fun _ _ _ _ _ z => z.elim, fun _ _ _ _ _ z => z.elim, fun o d v F1 H1 hE hR hp => hq o d v F1 H1 hp hE hR⟩

/-! ### __init__ of an own exception -/
theorem init2 {K : PySem.W.Frag} {f : Addr} {fd : FuncData} {x qual : Str} {params : Arguments} {scope : Scope} {a b : Str} {p1 p2 p3 p4 p5 p6 p7 p8 : Pos} {Cl : Addr} (F : FunD K x qual params [.Assign [.Attribute (.Name "self" p1) a p2] (.Name a p3) p4, .Assign [.Attribute (.Name "self" p5) b p6] (.Name b p7) p8] scope [] [] f fd)
    (Sc : FnScope ["self", a, b] ["self", a, b] scope) (hv : ∀ y ∈ (["self", a, b] : List Str), scope.names.lookup y = some .local ∧ okN y = true) (T : OexC K Cl) (ha : PySem.W.findIn K (.ref Cl) a = some none) (hb : PySem.W.findIn K (.ref Cl) b = some none) :
    FnOk P w K mg base (L2N.CX P w) 1 f fd ["self", a, b] (initSp Cl [a, b]) := by
  have vis : ∀ y ∈ (["self", a, b] : List Str), Vis scope y := fun y hy => .inl (hv y hy).1
  refine F.ok Sc (fun vs H Q E h => ?_) (fun cdv A outer s H vs Q E hr h => ⟨_, pss_cons (ps_ost (pe_var (i := 0) rfl (vis _ (by simp)) (okN_ok (hv _ (by simp)).2).1 (okN_ok (hv _ (by simp)).2).2) (pe_var (i := 1) rfl (vis _ (by simp)) (okN_ok (hv _ (by simp)).2).1 (okN_ok (hv _ (by simp)).2).2))
    (pss_one (ps_ost (pe_var (i := 0) rfl (vis _ (by simp)) (okN_ok (hv _ (by simp)).2).1 (okN_ok (hv _ (by simp)).2).2) (pe_var (i := 2) rfl (vis _ (by simp)) (okN_ok (hv _ (by simp)).2).1 (okN_ok (hv _ (by simp)).2).2))), ?_⟩)
  · obtain ⟨a, ws, rfl, e, _⟩ := h
    rw [List.length_cons, e] <;> rfl
  · obtain ⟨e, ws, rfl, hl, he, hq⟩ := h
    match ws, hl with
    | [y1, y2], _ =>
      refine ⟨y1, rfl, .ref e, rfl, e, Cl, rfl, T, ha, .inl ⟨he, fun dx hd hde => ?_⟩⟩
      have hed : e ≠ dx := fun z => hde z.symm
      refine ⟨y2, rfl, .ref e, rfl, e, Cl, rfl, T, hb, .inr ⟨dx, [(a, y1)], ?_, ?_, by simp, ?_⟩⟩
      · rw [upd_same]
      · rw [upd_ne hde, upd_same]
      · refine hq dx _ hd hde ?_ ?_ ?_
        · rw [upd_ne hed, upd_same]
        · rw [upd_same]; rfl
        · intro b' h1 h2
          rw [upd_ne h2, upd_ne h1, upd_ne h2]
theorem init1 {K : PySem.W.Frag} {f : Addr} {fd : FuncData} {x qual : Str} {params : Arguments} {scope : Scope} {a : Str} {p1 p2 p3 p4 : Pos} {Cl : Addr} (F : FunD K x qual params [.Assign [.Attribute (.Name "self" p1) a p2] (.Name a p3) p4] scope [] [] f fd)
    (Sc : FnScope ["self", a] ["self", a] scope) (hv : ∀ y ∈ (["self", a] : List Str), scope.names.lookup y = some .local ∧ okN y = true) (T : OexC K Cl) (ha : PySem.W.findIn K (.ref Cl) a = some none) :
    FnOk P w K mg base (L2N.CX P w) 1 f fd ["self", a] (initSp Cl [a]) := by
  have vis : ∀ y ∈ (["self", a] : List Str), Vis scope y := fun y hy => .inl (hv y hy).1
  refine F.ok Sc (fun vs H Q E h => ?_) (fun cdv A outer s H vs Q E hr h => ⟨_, pss_one (ps_ost (pe_var (i := 0) rfl (vis _ (by simp)) (okN_ok (hv _ (by simp)).2).1 (okN_ok (hv _ (by simp)).2).2) (pe_var (i := 1) rfl (vis _ (by simp)) (okN_ok (hv _ (by simp)).2).1 (okN_ok (hv _ (by simp)).2).2)), ?_⟩)
  · obtain ⟨a, ws, rfl, e, _⟩ := h
    rw [List.length_cons, e] <;> rfl
  · obtain ⟨e, ws, rfl, hl, he, hq⟩ := h
    match ws, hl with
    | [y1], _ =>
      refine ⟨y1, rfl, .ref e, rfl, e, Cl, rfl, T, ha, .inl ⟨he, fun dx hd hde => ?_⟩⟩
      have hed : e ≠ dx := fun z => hde z.symm
      refine hq dx _ hd hde ?_ ?_ ?_
      · rw [upd_same]
      · rw [upd_ne hde, upd_same]; rfl
      · intro b' h1 h2
        rw [upd_ne h1, upd_ne h2]
theorem fo2 {C : CT} {c : Nat} {a b : Str} (h : C.fld c = [a, b]) (ne : a ≠ b) : ∀ ws, ws.length = (C.fld c).length → FldsOf C c ((C.fld c).zip ws).reverse ws := by
  rw [h]
  intro ws hl
  match ws, hl with
  | [y1, y2], _ =>
    refine ⟨by rw [h] <;> rfl, fun i f hi => ?_⟩
    rw [h] at hi
    match i, hi with
    | 0, hi =>
      cases hi
      show List.lookup a [(b, y2), (a, y1)] = some y1
      rw [lookup_put, if_neg ne, lookup_put, if_pos rfl]
    | 1, hi =>
      cases hi
      show List.lookup b [(b, y2), (a, y1)] = some y2
      rw [lookup_put, if_pos rfl]
    | i + 2, hi => simp at hi
theorem fo1 {C : CT} {c : Nat} {a : Str} (h : C.fld c = [a]) : ∀ ws, ws.length = (C.fld c).length → FldsOf C c ((C.fld c).zip ws).reverse ws := by
  rw [h]
  intro ws hl
  match ws, hl with
  | [y1], _ =>
    refine ⟨by rw [h] <;> rfl, fun i f hi => ?_⟩
    rw [h] at hi
    match i, hi with
    | 0, hi =>
      cases hi
      show List.lookup a [(a, y1)] = some y1
      rw [lookup_put, if_pos rfl]
    | i + 1, hi => simp at hi
end
end VL
set_option maxHeartbeats 4000000
/-! VLo: what the head must tell of the own exceptions. -/
namespace VL
open PySem PySem.Spec PyProof.Rows L2
def oexB (K : PySem.W.Frag) (C : Addr) : Bool := (match K.lookup C with
  | some ⟨.type "type", _, .cls cd, sl⟩ => (match cd.mro, sl.toList with
    | .ref C' :: bm, [_, _, _, _, some (.builtin n), _] => C' == C && n == "ValueError.__new__" && !cd.hasDel && cd.hasDict && PySem.HandSPX.refsVE bm
    | _, _ => false)
  | _ => false) && (decide (PySem.W.findIn K (.ref C) "__setattr__" = some (some (.builtin "object.__setattr__"))) && (decide (PySem.W.subIn K (.ref C) (.type "BaseException") = some true) && (decide (PySem.W.typeIn K (.ref C) = some (.type "type")) && PySem.W.keepIn K (.ref C))))
theorem oexB_ok {K : PySem.W.Frag} {C : Addr} (h : oexB K C = true) : OexC K C := by
  unfold oexB at h
  simp only [Bool.and_eq_true, decide_eq_true_eq] at h
  obtain ⟨q, h1, h2, h3, h4⟩ := h
  refine ⟨?_, h1, h2, h3, h4⟩
  split at q
  · rename_i dd cd sl ho
    split at q
    · rename_i C' bm k0 k1 k2 k3 n k5 hm hs
      simp only [Bool.and_eq_true, beq_iff_eq, Bool.not_eq_true'] at q
      obtain ⟨⟨⟨⟨rfl, rfl⟩, hdel⟩, hdct⟩, ht⟩ := q
      obtain ⟨nm, bs, mro, ns, qn, hd, sn, sub, ab, col, del⟩ := cd
      dsimp only at hm hdel hdct
      subst hm hdel hdct
      have hsl : sl = #[k0, k1, k2, k3, some (.builtin "ValueError.__new__"), k5] := by
        obtain ⟨l⟩ := sl
        simp only at hs
        rw [hs]
      subst hsl
      exact ⟨nm, qn, ns, bs, bm, sn, sub, ab, col, dd, k0, k1, k2, k3, k5, ho, ht⟩
    · cases q
  · cases q
def excCB (K : PySem.W.Frag) (D : Addr) : Bool := decide (PySem.W.findIn K (.ref D) "__getattribute__" = some (some (.builtin "BaseException.__getattribute__"))) && (decide (PySem.W.findIn K (.ref D) "__getattr__" = some none) && (decide (PySem.W.subIn K (.ref D) (.type "BaseException") = some true) && (PySem.W.hasDictIn K D &&
  (decide (PySem.W.findIn K (.ref D) "__class__" = some (some (.builtin "object.__class__"))) && (decide (PySem.W.specialIn K (.builtin "object.__class__") "__get__" = some (some (.builtin "getset_descriptor.__get__"))) && (decide (PySem.W.takesIn K (.builtin "object.__class__") = some true) && decide (PySem.W.mroIn K D (.type "object") = some true)))))))
theorem excCB_ok {K : PySem.W.Frag} {D : Addr} (h : excCB K D = true) : ExcC K D := by
  unfold excCB at h
  simp only [Bool.and_eq_true, decide_eq_true_eq] at h
  obtain ⟨h1, h2, h3, h4, h5, h6, h7, h8⟩ := h
  exact ⟨h1, h2, h3, h4, h5, h6, h7, h8⟩
/-- a class's meaning: a global of the module, a built-in class -/
inductive CN where
  | own (x : Str)
  | blt (n : String)
def CN.v (K : PySem.W.Frag) : CN → Value
  | .own x => .ref (He.ga K x)
  | .blt n => .type n
/-- a class that is raised: its name, its fields -/
def rcB (K : PySem.W.Frag) (x : Str) (fs : List Str) : Bool := oexB K (He.ga K x) && (xfB K (He.ga K x) && (excCB K (He.ga K x) && (decide (PySem.W.findIn K (.ref (He.ga K x)) "__init__" = some (some (.ref (He.ma K (He.ga K x) "__init__")))) && (decide (PySem.W.typeIn K (.ref (He.ma K (He.ga K x) "__init__")) = some (.type "function")) &&
  fs.all fun f => decide (PySem.W.findIn K (.ref (He.ga K x)) f = some none)))))
def isB (K : PySem.W.Frag) (x : Str) (t : CN) (b : Bool) : Bool := decide (PySem.W.kitOne K (.ref (He.ga K x)) (t.v K) = some b) && decide (PySem.W.exmOne K (.ref (He.ga K x)) (t.v K) = some b)
def ctOf (K : PySem.W.Frag) (cn : List (Str × List Str)) : CT := ⟨K, fun n => He.ga K (cn.getD n ("", [])).1, fun n => (cn.getD n ("", [])).2⟩
/-- all that is asked of the own exceptions: rs the raised ones (name, fields), ts the names that isinstance and except name, with the answers -/
def exB (rs : List (Str × List Str)) (ts : List (Str × CN × List Bool)) (K : PySem.W.Frag) : Bool := (rs.all fun r => rcB K r.1 r.2) && ts.all fun t => ((rs.zip t.2.2).all fun q => isB K q.1.1 t.2.1 q.2)
structure RcOk (K : PySem.W.Frag) (x : Str) (fs : List Str) : Prop where
  o : OexC K (He.ga K x)
  f : XfC K (He.ga K x)
  e : ExcC K (He.ga K x)
  i : PySem.W.findIn K (.ref (He.ga K x)) "__init__" = some (some (.ref (He.ma K (He.ga K x) "__init__")))
  t : PySem.W.typeIn K (.ref (He.ma K (He.ga K x) "__init__")) = some (.type "function")
  no : ∀ f ∈ fs, PySem.W.findIn K (.ref (He.ga K x)) f = some none
theorem rcB_ok {K : PySem.W.Frag} {x : Str} {fs : List Str} (h : rcB K x fs = true) : RcOk K x fs := by
  unfold rcB at h
  simp only [Bool.and_eq_true, decide_eq_true_eq] at h
  obtain ⟨h1, h2, h3, h4, h5, h6⟩ := h
  exact ⟨oexB_ok h1, xfB_ok h2, excCB_ok h3, h4, h5, fun f hf => of_decide_eq_true (List.all_eq_true.mp h6 f hf)⟩
theorem exB_rc {rs : List (Str × List Str)} {ts : List (Str × CN × List Bool)} {K : PySem.W.Frag} (h : exB rs ts K = true) {x : Str} {fs : List Str} (hm : (x, fs) ∈ rs) : RcOk K x fs := by
  unfold exB at h
  rw [Bool.and_eq_true] at h
  exact rcB_ok (List.all_eq_true.mp h.1 _ hm)
theorem exB_is {rs : List (Str × List Str)} {ts : List (Str × CN × List Bool)} {K : PySem.W.Frag} (h : exB rs ts K = true) {t : Str} {cn : CN} {bs : List Bool} (hm : (t, cn, bs) ∈ ts) {r : Str × List Str} {b : Bool} (hr : (r, b) ∈ rs.zip bs) :
    PySem.W.kitOne K (.ref (He.ga K r.1)) (cn.v K) = some b ∧ PySem.W.exmOne K (.ref (He.ga K r.1)) (cn.v K) = some b := by
  unfold exB at h
  rw [Bool.and_eq_true] at h
  have h1 := List.all_eq_true.mp (List.all_eq_true.mp h.2 _ hm) _ hr
  unfold isB at h1
  rw [Bool.and_eq_true, decide_eq_true_eq, decide_eq_true_eq] at h1
  exact h1
/-- the j-th statement of a class's body -/
def clsFn (s : Stmt) (j : Nat) : Stmt := match s with
  | .ClassDef _ _ _ body _ _ _ _ _ _ _ => body.getD j (.Pass ⟨0, 0, 0, 0⟩)
  | _ => .Pass ⟨0, 0, 0, 0⟩
/-- a class's __init__, as the head tells of it -/
def ini (x q : Str) (s : Stmt) (j : Nat) : He.DefD := ⟨(x, some "__init__"), "__init__", q, defArgs (clsFn s j), defBody (clsFn s j), defScope (clsFn s j), [], []⟩
end VL
set_option maxHeartbeats 4000000
/-! VLp: a small language of numbers, for the def that draws from the store. Slot 0 holds the store. -/
namespace VL
open PySem PySem.Spec PyProof.Rows L2
namespace NL
/-- the store's keys -/
inductive Ky where
  | at | rest | left | turn | seed
def Ky.str : Ky → Str
  | .at => "at"
  | .rest => "rest"
  | .left => "left"
  | .turn => "turn"
  | .seed => "seed"
def kyOf (k : Str) : Option Ky := if k = ("at" : Str) then some .at else if k = ("rest" : Str) then some .rest else if k = ("left" : Str) then some .left else if k = ("turn" : Str) then some .turn else if k = ("seed" : Str) then some .seed else none
theorem kyOf_ok {k : Str} {y : Ky} (h : kyOf k = some y) : k = y.str := by
  unfold kyOf at h
  split at h
  · cases h; assumption
  · split at h
    · cases h; assumption
    · split at h
      · cases h; assumption
      · split at h
        · cases h; assumption
        · split at h
          · cases h; assumption
          · cases h
inductive E where
  | bad | var (i : Nat) | lit (n : Int) | bin (op : Operator) (a b : E) | get (k : Ky) | cell (e : E) | ncells | abs (e : E) | toi (e : E) | mix (a b : E)
inductive T where
  | bad | cmp (op : CmpOp) (a b : E) | or (a b : T)
mutual
inductive S where
  | bad | set (i : Nat) (e : E) | put (k : Ky) (e : E) | aug (k : Ky) (op : Operator) (e : E) | ifS (c : T) (a b : Ss) | for (i : Nat) (n : Int) (b : Ss) | brk | ret (e : E)
inductive Ss where
  | nil | cons (s : S) (ss : Ss)
end
structure Z where
  live : Bool
  l : List (Option Int)
  a : Int
  r : Int
  f : Int
  t : Int
  s : Int
/-- the store's numbers by key -/
def Z.get (z : Z) (k : Ky) : Option Int := match z.live, k with
  | false, _ => none
  | true, .at => some z.a
  | true, .rest => some z.r
  | true, .left => some z.f
  | true, .turn => some z.t
  | true, .seed => some z.s
def Z.put (z : Z) (k : Ky) (v : Int) : Option Z := match z.live, k with
  | false, _ => none
  | true, .at => some { z with a := v }
  | true, .rest => some { z with r := v }
  | true, .left => some { z with f := v }
  | true, .turn => some { z with t := v }
  | true, .seed => none
def bin (op : Operator) (i j : Int) (K : Int → Prop) : Prop := match op with
  | .Add => K (i + j)
  | .Sub => K (i - j)
  | .Mult => MulOk i j ∧ K (i * j)
  | .FloorDiv => (0 < j ∧ j.natAbs.log2 < 9000) ∧ K (i / j)
  | .Mod => 0 < j ∧ K (i % j)
  | .Pow => (0 ≤ j ∧ (Builtin.Int.intBits i : Int) * j ≤ 2 ^ 27) ∧ K (i ^ j.toNat)
  | _ => False
def cmp (op : CmpOp) (i j : Int) (K : Bool → Prop) : Prop := match op with
  | .Lt => K (decide (i < j))
  | .LtE => K (decide (i ≤ j))
  | .Gt => K (decide (j < i))
  | .GtE => K (decide (j ≤ i))
  | _ => False
section
variable (ns : List Int) (mx : Int → Int → Int)
def wE : E → Z → (Int → Prop) → Prop
  | .bad, _, _ => False
  | .var i, z, K => ∃ v, z.l[i]? = some (some v) ∧ K v
  | .lit n, _, K => K n
  | .bin op a b, z, K => wE a z fun i => wE b z fun j => bin op i j K
  | .get k, z, K => ∃ v, z.get k = some v ∧ K v
  | .cell e, z, K => z.live = true ∧ wE e z fun i => ∃ v, L2.atI ns i = some v ∧ K v
  | .ncells, z, K => z.live = true ∧ K ns.length
  | .abs e, z, K => wE e z fun i => K (if i < 0 then -i else i)
  | .toi e, z, K => wE e z K
  | .mix a b, z, K => wE a z fun i => wE b z fun j => K (mx i j)
def wT : T → Z → (Bool → Prop) → Prop
  | .bad, _, _ => False
  | .cmp op a b, z, K => wE ns mx a z fun i => wE ns mx b z fun j => cmp op i j K
  | .or a b, z, K => wT a z fun c => (c = true → K true) ∧ (c = false → wT b z K)
structure Ends where
  nx : Z → Prop
  bk : Z → Prop
  rt : Int → Z → Prop
def forN (step : Int → Z → (Z → Prop) → (Z → Prop) → Prop) (K : Z → Prop) : Nat → Int → Z → Prop
  | 0, _, z => K z
  | r + 1, i, z => step i z (forN step K r (i + 1)) K
mutual
def wS : S → Z → Ends → Prop
  | .bad, _, _ => False
  | .set i e, z, D => 0 < i ∧ wE ns mx e z fun v => D.nx { z with l := z.l.set i (some v) }
  | .put k e, z, D => wE ns mx e z fun v => ∃ z', z.put k v = some z' ∧ D.nx z'
  | .aug k op e, z, D => ∃ v, z.get k = some v ∧ wE ns mx e z fun w => (match op with
    | .Add => ∃ z', z.put k (v + w) = some z' ∧ D.nx z'
    | .Sub => ∃ z', z.put k (v - w) = some z' ∧ D.nx z'
    | _ => False)
  | .ifS c a b, z, D => wT ns mx c z fun x => (x = true → wSs a z D) ∧ (x = false → wSs b z D)
  | .for i n b, z, D => (0 < i ∧ 0 ≤ n ∧ n < 2 ^ 62) ∧ forN (fun v z nx bk => wSs b { z with l := z.l.set i (some v) } { nx := nx, bk := bk, rt := D.rt }) D.nx n.toNat 0 z
  | .brk, z, D => D.bk z
  | .ret e, z, D => wE ns mx e z fun v => D.rt v z
def wSs : Ss → Z → Ends → Prop
  | .nil, z, D => D.nx z
  | .cons s ss, z, D => wS s z { D with nx := fun z' => wSs ss z' D }
end
end

/-! ### from the text -/
structure CN where
  N : List Str
  sc : Scope
def CN.ix (c : CN) (x : Str) : Option Nat := if okN x && decide (c.sc.names.lookup x = some .local) then ixOf x c.N else none
def CN.gl (c : CN) (x : Str) : Bool := okN x && decide (c.sc.names.lookup x = some .globalImplicit)
/-- the expression is the store -/
def CN.isSto (c : CN) : Expr → Bool
  | .Name x _ => decide (c.ix x = some 0)
  | _ => false
def keyOf : Expr → Option Str
  | .Constant (.str k) _ _ => some k
  | _ => none
def ce : Nat → CN → Expr → E
  | 0, _, _ => .bad
  | n + 1, c, e => match e with
    | .Name x _ => (match c.ix x with
      | some i => .var i
      | none => .bad)
    | .Constant (.int i) _ _ => .lit i
    | .BinOp a op b _ => .bin op (ce n c a) (ce n c b)
    | .Subscript (.Name x _) (.Constant (.str k) _ _) _ => if c.ix x = some 0 then (match kyOf k with
      | some y => .get y
      | none => .bad) else .bad
    | .Subscript (.Subscript (.Name x _) (.Constant (.str k) _ _) _) i _ => if c.ix x = some 0 ∧ k = ("cells" : Str) ∧ isSlice i = false then .cell (ce n c i) else .bad
    | .Call (.Name f _) [.Subscript (.Name x _) (.Constant (.str k) _ _) _] [] _ => if c.gl f = true ∧ c.ix x = some 0 then (if k = ("cells" : Str) ∧ f = ("len" : Str) then .ncells else (match kyOf k with
      | some y => if f = ("int" : Str) then .toi (.get y) else if f = ("abs" : Str) then .abs (.get y) else .bad
      | none => .bad)) else .bad
    | .Call (.Name f _) [a] [] _ => if c.gl f = true ∧ isStar a = false then (if f = ("int" : Str) then .toi (ce n c a) else if f = ("abs" : Str) then .abs (ce n c a) else .bad) else .bad
    | .Call (.Name f _) [a, b] [] _ => if c.gl f = true ∧ isStar a = false ∧ isStar b = false ∧ f = ("_law_mix" : Str) then .mix (ce n c a) (ce n c b) else .bad
    | _ => .bad
def ct : Nat → CN → Expr → T
  | 0, _, _ => .bad
  | n + 1, c, e => match e with
    | .Compare a [op] [b] _ => if behindInMarks op b then .bad else .cmp op (ce n c a) (ce n c b)
    | .BoolOp .Or [a, b] _ => .or (ct n c a) (ct n c b)
    | .BoolOp .Or [a, b, d] _ => .or (ct n c a) (.or (ct n c b) (ct n c d))
    | _ => .bad
def mapN (f : Stmt → S) : List Stmt → Ss
  | [] => .nil
  | s :: ss => .cons (f s) (mapN f ss)
def cs : Nat → CN → Stmt → S
  | 0, _, _ => .bad
  | n + 1, c, s => match s with
    | .Break _ => .brk
    | .Return (some e) _ => .ret (ce n c e)
    | .Assign [.Name x _] e _ => (match c.ix x, e with
      | some i, .ListComp _ _ _ _ => .bad
      | some i, .SetComp _ _ _ _ => .bad
      | some i, .DictComp _ _ _ _ _ => .bad
      | some i, e => .set i (ce n c e)
      | none, _ => .bad)
    | .Assign [.Subscript (.Name x _) (.Constant (.str k) _ _) _] e _ => (match e with
      | .ListComp _ _ _ _ => .bad
      | .SetComp _ _ _ _ => .bad
      | .DictComp _ _ _ _ _ => .bad
      | e => if c.ix x = some 0 then (match kyOf k with
        | some y => .put y (ce n c e)
        | none => .bad) else .bad)
    | .AugAssign (.Subscript (.Name x _) (.Constant (.str k) _ _) _) op e _ => if c.ix x = some 0 then (match kyOf k with
      | some y => .aug y op (ce n c e)
      | none => .bad) else .bad
    | .If t a b _ => .ifS (ct n c t) (mapN (cs n c) a) (mapN (cs n c) b)
    | .For (.Name x _) (.Call (.Name f _) [.Constant (.int m) _ _] [] _) b [] _ => if c.gl f = true ∧ f = ("range" : Str) then (match c.ix x with
      | some i => .for i m (mapN (cs n c) b)
      | none => .bad) else .bad
    | _ => .bad

/-! ### soundness -/
section
variable {X : Cx}
theorem opN (op : Operator) : OpR X (binaryOp op) (fun x y H Q => ∃ i j, x = .int i ∧ y = .int j ∧ bin op i j fun k => Q (.int k) H) := by
  intro pins s σ H x y v u Q I rx ry h
  obtain ⟨i, j, rfl, rfl, h⟩ := h
  unfold bin at h
  split at h
  · exact op_add pins s σ H _ _ v u Q I rx ry ⟨_, _, rfl, rfl, h⟩
  · exact op_sub pins s σ H _ _ v u Q I rx ry ⟨_, _, rfl, rfl, h⟩
  · exact op_mulG pins s σ H _ _ v u Q I rx ry ⟨_, _, rfl, rfl, h⟩
  · exact op_fdivW pins s σ H _ _ v u Q I rx ry ⟨_, _, rfl, rfl, h⟩
  · exact op_mod pins s σ H _ _ v u Q I rx ry ⟨_, _, rfl, rfl, h⟩
  · exact op_powG pins s σ H _ _ v u Q I rx ry ⟨_, _, rfl, rfl, h⟩
  · exact h.elim
theorem cmpN (op : CmpOp) : OpR X (compareOp op) (fun x y H Q => ∃ i j, x = .int i ∧ y = .int j ∧ cmp op i j fun k => Q (.bl k) H) := by
  intro pins s σ H x y v u Q I rx ry h
  obtain ⟨i, j, rfl, rfl, h⟩ := h
  unfold cmp at h
  split at h
  · exact op_lt pins s σ H _ _ v u Q I rx ry ⟨_, _, rfl, rfl, h⟩
  · exact op_le pins s σ H _ _ v u Q I rx ry ⟨_, _, rfl, rfl, h⟩
  · exact op_gt pins s σ H _ _ v u Q I rx ry ⟨_, _, rfl, rfl, h⟩
  · exact op_ge pins s σ H _ _ v u Q I rx ry ⟨_, _, rfl, rfl, h⟩
  · exact h.elim
end
/-- what _law_mix promises -/
def spMix (mx : Int → Int → Int) : Sp := fun vs H Q _ => ∃ i j, vs = [.int i, .int j] ∧ Q (.int (mx i j)) H
structure NOK (p c : Addr) (ns : List Int) (H0 : Hp) (σ0 : L2.St) (z : Z) (σ : L2.St) (H : Hp) : Prop where
  st : z.live = true → σ[0]? = some (some (.ref p)) ∧ z.l[0]? = some none ∧ H = upd H0 p (.dK (stoL c z.a z.r z.f z.t z.s)) ∧ H0 c = some (.lst (ns.map V.int)) ∧ c ≠ p
  dead : z.live = false → H = H0
  l : ∀ (i : Nat) v, z.l[i]? = some (some v) → σ[i]? = some (some (.int v))
  len : z.l.length = σ.length
  kp : ∀ i : Nat, z.l[i]? = some none → σ[i]? = σ0[i]?
structure NC (mx : Int → Int → Int) (X : Cx) (c : CN) : Prop where
  hN : X.N = c.N
  sc : X.env.scope = c.sc
  nd : X.N.Nodup
  calm : X.calm = true
  po : PassesOwn (model X.prog X.w) X.A X.env X.xe
  un : X.A.units + 1 < cLine
  len : X.mg "len" = none
  int : X.mg "int" = none
  abs : X.mg "abs" = none
  rng : X.mg "range" = none
  mix : c.gl "_law_mix" = true → ∃ lv f fd ps, FnOk X.prog X.w X.K X.mg X.base (L2N.CX X.prog X.w) lv f fd ps (spMix mx) ∧ Room lv X.A ∧ X.mg "_law_mix" = some (.ref f) ∧ PySem.W.keepIn X.K (.ref f) = true ∧ Binds X.K fd ps []
section
variable {p c : Addr} {ns : List Int} {mx : Int → Int → Int} {H0 : Hp} {σ0 : L2.St}
theorem NOK.get {z : Z} {σ : L2.St} {H : Hp} (O : NOK p c ns H0 σ0 z σ H) {k : Ky} {v : Int} (h : z.get k = some v) : σ[0]? = some (some (.ref p)) ∧ DGet H p (.str k.str) (some (.int v)) := by
  unfold Z.get at h
  cases hl : z.live with
  | false => rw [hl] at h; cases h
  | true =>
    rw [hl] at h
    obtain ⟨e0, _, e1, _, _⟩ := O.st hl
    refine ⟨e0, ?_⟩
    have key : DGet H p (.str k.str) (valV (stoL c z.a z.r z.f z.t z.s) (.inr k.str)) := DGet.k (k := .inr k.str) (by rw [e1, upd_same])
    cases k <;> (cases h; exact key)
theorem upd_upd {H : Hp} {a : Addr} {o u : HO} : upd (upd H a o) a u = upd H a u := by
  funext b
  by_cases h : b = a
  · subst h; rw [upd_same, upd_same]
  · rw [upd_ne h, upd_ne h, upd_ne h]
theorem NOK.put {z z' : Z} {σ : L2.St} {H : Hp} (O : NOK p c ns H0 σ0 z σ H) {k : Ky} {v : Int} (h : z.put k v = some z') : σ[0]? = some (some (.ref p)) ∧ ∃ H', DPut H p (.str k.str) (.int v) H' ∧ NOK p c ns H0 σ0 z' σ H' := by
  unfold Z.put at h
  cases hl' : z.live with
  | false => rw [hl'] at h; cases h
  | true =>
    rw [hl'] at h
    obtain ⟨e0, e00, e1, e2, e3⟩ := O.st hl'
    refine ⟨e0, _, DPut.k (k := .inr k.str) (kvs := stoL c z.a z.r z.f z.t z.s) (by rw [e1, upd_same]) (by rw [sizeLine_eq]; show 6 < 16777216; decide), ?_⟩
    have fin : ∀ z2 : Z, z2.live = z.live → z2.l = z.l → putK (stoL c z.a z.r z.f z.t z.s) (.inr k.str) (.int v) = stoL c z2.a z2.r z2.f z2.t z2.s → NOK p c ns H0 σ0 z2 σ (upd H p (.dK (putK (stoL c z.a z.r z.f z.t z.s) (.inr k.str) (.int v)))) := fun z2 h1 h2 h3 => by
      rw [h3, e1, upd_upd]
      exact ⟨fun _ => ⟨e0, by rw [h2]; exact e00, rfl, e2, e3⟩, (fun hd => by rw [h1, hl'] at hd; cases hd), fun i v hv => O.l i v (by rw [← h2]; exact hv), by rw [h2]; exact O.len, fun i hi => O.kp i (by rw [← h2]; exact hi)⟩
    cases k <;> first | (cases h; exact fin _ hl'.symm rfl rfl) | cases h
theorem NOK.set {z : Z} {σ : L2.St} {H : Hp} (O : NOK p c ns H0 σ0 z σ H) {i : Nat} {v : Int} (hi : 0 < i) : NOK p c ns H0 σ0 { z with l := z.l.set i (some v) } (σ.set i (some (.int v))) H where
  st := fun hl => by
    obtain ⟨e0, e00, e1, e2, e3⟩ := O.st hl
    have : i ≠ 0 := by omega
    exact ⟨by rw [List.getElem?_set_ne this]; exact e0, by show (z.l.set i (some v))[0]? = _; rw [List.getElem?_set_ne this]; exact e00, e1, e2, e3⟩
  dead := O.dead
  l := fun j w h => by
    have h : (z.l.set i (some v))[j]? = some (some w) := h
    by_cases e : i = j
    · subst e
      by_cases hl : i < z.l.length
      · rw [List.getElem?_set_self hl] at h
        cases h
        rw [List.getElem?_set_self (by rw [← O.len]; exact hl)]
      · rw [List.getElem?_eq_none (by simpa using hl)] at h
        cases h
    · rw [List.getElem?_set_ne e] at h ⊢
      exact O.l j w h
  len := by
    show (z.l.set i (some v)).length = _
    rw [List.length_set, List.length_set]
    exact O.len
  kp := fun j h => by
    have h : (z.l.set i (some v))[j]? = some none := h
    by_cases e : i = j
    · subst e
      by_cases hl : i < z.l.length
      · rw [List.getElem?_set_self hl] at h; cases h
      · rw [List.getElem?_eq_none (by simpa using hl)] at h; cases h
    · rw [List.getElem?_set_ne e] at h ⊢
      exact O.kp j h
variable (p c ns mx H0 σ0) in
def tE (e : E) : TE := fun σ H Q => ∃ z K, NOK p c ns H0 σ0 z σ H ∧ wE ns mx e z K ∧ ∀ i, K i → Q (.int i) H
variable (p c ns mx H0 σ0) in
def tT (e : T) : TT := fun σ H Q => ∃ z K, NOK p c ns H0 σ0 z σ H ∧ wT ns mx e z K ∧ ∀ b, K b → Q b H
structure EOK (p c : Addr) (ns : List Int) (H0 : Hp) (σ0 : L2.St) (Dz : Ends) (D : L2.Ends) : Prop where
  nx : ∀ σ H z, NOK p c ns H0 σ0 z σ H → Dz.nx z → D.nx σ H
  bk : ∀ σ H z, NOK p c ns H0 σ0 z σ H → Dz.bk z → D.bk σ H
  rt : ∀ σ H z v, NOK p c ns H0 σ0 z σ H → Dz.rt v z → D.rt (.int v) H
variable (p c ns mx H0 σ0) in
def tS (s : S) : TS := fun D σ H => ∃ z Dz, NOK p c ns H0 σ0 z σ H ∧ wS ns mx s z Dz ∧ EOK p c ns H0 σ0 Dz D
variable (p c ns mx H0 σ0) in
def tSs (s : Ss) : TS := fun D σ H => ∃ z Dz, NOK p c ns H0 σ0 z σ H ∧ wSs ns mx s z Dz ∧ EOK p c ns H0 σ0 Dz D
variable {X : Cx} {cn : CN}
theorem ebad {e : Expr} : PE X e (tE p c ns mx H0 σ0 .bad) := ⟨fun pins s σ H Q I q => by
  obtain ⟨z, _, _, h, _⟩ := q
  unfold wE at h
  exact h.elim⟩
theorem CN.ix_ok {x : Str} {i : Nat} (cx : NC mx X cn) (h : cn.ix x = some i) : X.N[i]? = some x ∧ X.env.scope.names.lookup x = some .local ∧ okN x = true := by
  unfold CN.ix at h
  split at h
  · rename_i h1
    rw [Bool.and_eq_true, decide_eq_true_eq] at h1
    rw [cx.hN, cx.sc]
    exact ⟨ixOf_ok h, h1.2, h1.1⟩
  · cases h
theorem CN.gl_ok {x : Str} (cx : NC mx X cn) (h : cn.gl x = true) : Gl X x ∧ (x == ("__debug__" : Str)) = false := by
  unfold CN.gl at h
  rw [Bool.and_eq_true, decide_eq_true_eq] at h
  refine ⟨?_, (okN_ok h.1).1⟩
  show X.env.kindOf x = some .globalImplicit
  unfold Env.kindOf
  rw [cx.sc]
  exact h.2
theorem pvar (cx : NC mx X cn) {x : Str} {i : Nat} {pos : Pos} (h : cn.ix x = some i) : PE X (.Name x pos) (tVar i) := by
  obtain ⟨h1, h2, h3⟩ := CN.ix_ok cx h
  exact pe_var h1 (.inl h2) (okN_ok h3).1 (okN_ok h3).2
theorem e_get (cx : NC mx X cn) {x k : Str} {y : Ky} {p1 p2 p3 : Pos} {j : Nat} (h : cn.ix x = some 0) (hy : kyOf k = some y) : PE X (.Subscript (.Name x p1) (.Constant (.str k) j p2) p3) (tE p c ns mx H0 σ0 (.get y)) := by
  rw [kyOf_ok hy]
  refine pe_imp (pe_dget cx.un (pvar cx h) pe_str (fun _ _ => rfl)) ?_
  rintro σ H Q ⟨z, K, O, hw, g⟩
  unfold wE at hw
  obtain ⟨v, hv, hk⟩ := hw
  obtain ⟨e0, gd⟩ := O.get hv
  exact ⟨.ref p, e0, p, _, rfl, gd, g v hk⟩
theorem e_cells (cx : NC mx X cn) {x : Str} {p1 p2 p3 : Pos} {j : Nat} (h : cn.ix x = some 0) : PE X (.Subscript (.Name x p1) (.Constant (.str "cells") j p2) p3) (fun σ H Q => ∃ z, NOK p c ns H0 σ0 z σ H ∧ z.live = true ∧ Q (.ref c) H) := by
  refine pe_imp (pe_dget cx.un (pvar cx h) pe_str (fun _ _ => rfl)) ?_
  rintro σ H Q ⟨z, O, hl, hk⟩
  obtain ⟨e0, e00, e1, e2, e3⟩ := O.st hl
  exact ⟨.ref p, e0, p, _, rfl, DGet.k (k := .inr "cells") (kvs := stoL c z.a z.r z.f z.t z.s) (by rw [e1, upd_same]), hk⟩
theorem e_abs (cx : NC mx X cn) {a : Expr} {va : E} {p1 pos : Pos} (h : cn.gl "abs" = true) (hs : isStar a = false) (ha : PE X a (tE p c ns mx H0 σ0 va)) : PE X (.Call (.Name "abs" p1) [a] [] pos) (tE p c ns mx H0 σ0 (.abs va)) := by
  obtain ⟨g1, g2⟩ := CN.gl_ok cx h
  refine pe_imp (pe_callB call_abs g1 cx.abs boot_abs (pa_cons ha pa_nil (star_cons hs)) (by decide) g2 (star_cons hs) (by rw [back_any]; rfl)) ?_
  rintro σ H Q ⟨z, K, O, hw, g⟩
  unfold wE at hw
  exact ⟨z, _, O, hw, fun i hk => ⟨i, rfl, g _ hk⟩⟩
theorem e_toi (cx : NC mx X cn) {a : Expr} {va : E} {p1 pos : Pos} (h : cn.gl "int" = true) (hs : isStar a = false) (ha : PE X a (tE p c ns mx H0 σ0 va)) : PE X (.Call (.Name "int" p1) [a] [] pos) (tE p c ns mx H0 σ0 (.toi va)) := by
  obtain ⟨g1, g2⟩ := CN.gl_ok cx h
  refine pe_imp (pe_callTy call_int1 g1 cx.int (by decide +kernel) (pa_cons ha pa_nil (star_cons hs)) (by decide) g2 (star_cons hs) (by rw [back_any]; rfl)) ?_
  rintro σ H Q ⟨z, K, O, hw, g⟩
  unfold wE at hw
  exact ⟨z, _, O, hw, fun i hk => .inl ⟨i, rfl, g _ hk⟩⟩
theorem e_mix (cx : NC mx X cn) {a b : Expr} {va vb : E} {p1 pos : Pos} (h : cn.gl "_law_mix" = true) (hs : isStar a = false) (hs2 : isStar b = false) (ha : PE X a (tE p c ns mx H0 σ0 va)) (hb : PE X b (tE p c ns mx H0 σ0 vb)) :
    PE X (.Call (.Name "_law_mix" p1) [a, b] [] pos) (tE p c ns mx H0 σ0 (.mix va vb)) := by
  obtain ⟨g1, g2⟩ := CN.gl_ok cx h
  obtain ⟨lv, f, fd, ps, F, hr, hm, hk, hbi⟩ := cx.mix h
  refine pe_imp (pe_callS (E := fun _ _ _ _ => False) F hr g1 hm hk hbi (fun σ pins H s e s' I cc => (passN (X := X)) pins σ H s e s' I cc) (pa_cons ha (pa_cons hb pa_nil (star_cons hs2)) (star_cons hs)) g2 (star_cons hs) (by rw [back_any, star_cons hs2]; rfl)) ?_
  rintro σ H Q ⟨z, K, O, hw, g⟩
  unfold wE at hw
  exact ⟨z, _, O, hw, fun i hk => ⟨z, _, O, hk, fun j hk => ⟨i, j, rfl, g _ hk⟩⟩⟩
theorem bin_mono {op : Operator} {i j : Int} {K K' : Int → Prop} (g : ∀ i, K i → K' i) (h : bin op i j K) : bin op i j K' := by
  unfold bin at h ⊢
  split at h <;> first | exact g _ h | exact ⟨h.1, g _ h.2⟩ | exact h
theorem cmp_mono {op : CmpOp} {i j : Int} {K K' : Bool → Prop} (g : ∀ i, K i → K' i) (h : cmp op i j K) : cmp op i j K' := by
  unfold cmp at h ⊢
  split at h <;> first | exact g _ h | exact h
theorem e_bin {a b : Expr} {op : Operator} {va vb : E} {pos : Pos} (ha : PE X a (tE p c ns mx H0 σ0 va)) (hb : PE X b (tE p c ns mx H0 σ0 vb)) : PE X (.BinOp a op b pos) (tE p c ns mx H0 σ0 (.bin op va vb)) := by
  refine pe_imp (pe_op (opN op) ha hb) ?_
  rintro σ H Q ⟨z, K, O, hw, g⟩
  unfold wE at hw
  exact ⟨z, _, O, hw, fun i hk => ⟨z, _, O, hk, fun j hk => ⟨i, j, rfl, rfl, bin_mono (fun k hk => g k hk) hk⟩⟩⟩
theorem e_ncells (cx : NC mx X cn) {x : Str} {p0 p1 p2 p3 pos : Pos} {j : Nat} (h : cn.gl "len" = true) (hx : cn.ix x = some 0) : PE X (.Call (.Name "len" p0) [.Subscript (.Name x p1) (.Constant (.str "cells") j p2) p3] [] pos) (tE p c ns mx H0 σ0 .ncells) := by
  obtain ⟨g1, g2⟩ := CN.gl_ok cx h
  refine pe_imp (pe_callB call_len_seq g1 cx.len boot_len (pa_cons (e_cells (p := p) (c := c) (ns := ns) (H0 := H0) (σ0 := σ0) cx hx) pa_nil rfl) (by decide) g2 rfl (by rw [back_any]; rfl)) ?_
  rintro σ H Q ⟨z, K, O, hw, g⟩
  unfold wE at hw
  obtain ⟨e0, e00, e1, e2, e3⟩ := O.st hw.1
  refine ⟨z, O, hw.1, c, _, rfl, .inl (.of (by rw [e1, upd_ne e3]; exact e2)), ?_⟩
  rw [List.length_map]
  exact g _ hw.2
theorem e_cell (cx : NC mx X cn) {x : Str} {i : Expr} {vi : E} {p1 p2 p3 pos : Pos} {j : Nat} (hx : cn.ix x = some 0) (hs : isSlice i = false) (hi : PE X i (tE p c ns mx H0 σ0 vi)) : PE X (.Subscript (.Subscript (.Name x p1) (.Constant (.str "cells") j p2) p3) i pos) (tE p c ns mx H0 σ0 (.cell vi)) := by
  refine pe_imp (pe_ix ix_list (e_cells (p := p) (c := c) (ns := ns) (H0 := H0) (σ0 := σ0) cx hx) hi (slice_plain hs)) ?_
  rintro σ H Q ⟨z, K, O, hw, g⟩
  unfold wE at hw
  obtain ⟨hl, hw⟩ := hw
  obtain ⟨e0, e00, e1, e2, e3⟩ := O.st hl
  refine ⟨z, O, hl, z, _, O, hw, fun i hk => ?_⟩
  obtain ⟨v, hv, hk⟩ := hk
  refine ⟨c, ns.map V.int, i, .int v, rfl, rfl, .of (by rw [e1, upd_ne e3]; exact e2), ?_, g _ hk⟩
  unfold L2.atI at hv ⊢
  rw [List.length_map]
  cases q : L2.ixN ns.length i with
  | none => rw [q] at hv; cases hv
  | some m =>
    rw [q] at hv
    show (ns.map V.int)[m]? = _
    have hv : ns[m]? = some v := hv
    rw [List.getElem?_map, hv] <;> rfl
theorem e_all (cx : NC mx X cn) : ∀ (n : Nat) (e : Expr), PE X e (tE p c ns mx H0 σ0 (ce n cn e))
  | 0, e => by unfold ce; exact ebad
  | n + 1, e => by
    have ih := e_all cx n
    unfold ce
    split
    · split
      · rename_i h
        refine pe_imp (pvar cx h) ?_
        rintro σ H Q ⟨z, K, O, hw, g⟩
        unfold wE at hw
        obtain ⟨v, hv, hk⟩ := hw
        exact ⟨_, O.l _ _ hv, g _ hk⟩
      · exact ebad
    · refine pe_imp pe_int ?_
      rintro σ H Q ⟨z, K, O, hw, g⟩
      unfold wE at hw
      exact g _ hw
    · exact e_bin (ih _) (ih _)
    · split
      · split
        · exact e_get cx ‹_› ‹_›
        · exact ebad
      · exact ebad
    · split
      · rename_i h
        obtain ⟨h1, h2, h3⟩ := h
        subst h2
        exact e_cell cx h1 h3 (ih _)
      · exact ebad
    · split
      · rename_i h
        obtain ⟨h1, h2⟩ := h
        split
        · rename_i h
          obtain ⟨h3, h4⟩ := h
          subst h3 h4
          exact e_ncells cx h1 h2
        · split
          · split
            · rename_i hy h; subst h; exact e_toi cx h1 rfl (e_get cx h2 hy)
            · split
              · rename_i hy _ h; subst h; exact e_abs cx h1 rfl (e_get cx h2 hy)
              · exact ebad
          · exact ebad
      · exact ebad
    · split
      · rename_i h
        split
        · rename_i h2; subst h2; exact e_toi cx h.1 h.2 (ih _)
        · split
          · rename_i h2; subst h2; exact e_abs cx h.1 h.2 (ih _)
          · exact ebad
      · exact ebad
    · split
      · rename_i h
        obtain ⟨h1, h2, h3, h4⟩ := h
        subst h4
        exact e_mix cx h1 h2 h3 (ih _) (ih _)
      · exact ebad
    · exact ebad
theorem tbad {e : Expr} : PT X e (tT p c ns mx H0 σ0 .bad) := ⟨fun pins s σ H Q I q => by
  obtain ⟨z, _, _, h, _⟩ := q
  unfold wT at h
  exact h.elim⟩
theorem t_all (cx : NC mx X cn) : ∀ (n : Nat) (e : Expr), PT X e (tT p c ns mx H0 σ0 (ct n cn e))
  | 0, e => by unfold ct; exact tbad
  | n + 1, e => by
    have ih := t_all cx n
    have or1 : ∀ {a : Expr} {as : List Expr} {pos : Pos} {va vb : T}, PT X a (tT p c ns mx H0 σ0 va) → PW X (.BoolOp .Or as pos) (tT p c ns mx H0 σ0 vb) → as ≠ [] → PW X (.BoolOp .Or (a :: as) pos) (tT p c ns mx H0 σ0 (.or va vb)) := by
      intro a as pos va vb ha hb hne
      cases as with
      | nil => exact absurd rfl hne
      | cons b r =>
        refine pw_imp (pw_or ha hb) ?_
        rintro σ H Q ⟨z, K, O, hw, g⟩
        unfold wT at hw
        refine ⟨z, _, O, hw, fun d hk => ?_⟩
        cases d with
        | true => rw [if_pos rfl]; exact g _ (hk.1 rfl)
        | false => rw [if_neg Bool.false_ne_true]; exact ⟨z, K, O, hk.2 rfl, g⟩
    unfold ct
    split
    · split
      · exact tbad
      · rename_i h
        refine pt_imp (pt_cmpR (cmpN _) (e_all (p := p) (c := c) (ns := ns) (H0 := H0) (σ0 := σ0) cx n _) (e_all (p := p) (c := c) (ns := ns) (H0 := H0) (σ0 := σ0) cx n _) (by simpa using h)) ?_
        rintro σ H Q ⟨z, K, O, hw, g⟩
        unfold wT at hw
        exact ⟨z, _, O, hw, fun i hk => ⟨z, _, O, hk, fun j hk => ⟨i, j, rfl, rfl, cmp_mono (fun b hb => ⟨b, rfl, g _ hb⟩) hk⟩⟩⟩
    · exact (or1 (ih _) (pw_or1 (ih _)) (by simp)).pt
    · exact (or1 (ih _) (or1 (ih _) (pw_or1 (ih _)) (by simp)) (by simp)).pt
    · exact tbad

theorem sbad {s : Stmt} : PS X s (tS p c ns mx H0 σ0 .bad) := ⟨fun pins st σ H D I q => by
  obtain ⟨z, _, _, h, _⟩ := q
  unfold wS at h
  exact h.elim⟩
theorem s_list {f : Stmt → S} (h : ∀ s, PS X s (tS p c ns mx H0 σ0 (f s))) : ∀ ss : List Stmt, PSs X ss (tSs p c ns mx H0 σ0 (mapN f ss))
  | [] => by
    refine pss_imp pss_nil ?_
    rintro D σ H ⟨z, Dz, O, hw, g⟩
    unfold mapN wSs at hw
    exact g.nx _ _ _ O hw
  | s :: ss => by
    refine pss_imp (pss_cons (h s) (s_list h ss)) ?_
    rintro D σ H ⟨z, Dz, O, hw, g⟩
    unfold mapN wSs at hw
    exact ⟨z, _, O, hw, ⟨fun σ' H' z' O' hk => ⟨z', Dz, O', hk, g⟩, g.bk, g.rt⟩⟩
theorem s_set (cx : NC mx X cn) {x : Str} {i : Nat} {e : Expr} {ve : E} {p1 pos : Pos} (hi : cn.ix x = some i) (h : PE X e (tE p c ns mx H0 σ0 ve)) (hsw : swapsWith e (some (.Name x p1)) pos.line X.env = pure false) : PS X (.Assign [.Name x p1] e pos) (tS p c ns mx H0 σ0 (.set i ve)) := by
  obtain ⟨h1, h2, h3⟩ := CN.ix_ok cx hi
  refine ps_imp (ps_set cx.nd h1 (.inl h2) h hsw (.inr h2)) ?_
  rintro D σ H ⟨z, Dz, O, hw, g⟩
  unfold wS at hw
  exact ⟨z, _, O, hw.2, fun v hk => g.nx _ _ _ (O.set hw.1) hk⟩
theorem s_put (cx : NC mx X cn) {x k : Str} {y : Ky} {e : Expr} {ve : E} {p1 p2 p3 pos : Pos} {j : Nat} (hi : cn.ix x = some 0) (hy : kyOf k = some y) (h : PE X e (tE p c ns mx H0 σ0 ve)) (hsw : swapsWith e (some (.Subscript (.Name x p1) (.Constant (.str k) j p2) p3)) pos.line X.env = pure false) :
    PS X (.Assign [.Subscript (.Name x p1) (.Constant (.str k) j p2) p3] e pos) (tS p c ns mx H0 σ0 (.put y ve)) := by
  have hk := kyOf_ok hy
  subst hk
  refine ps_imp (ps_asg h (pg_sub (pvar cx hi) pe_str (set_dict cx.un)) hsw rfl) ?_
  rintro D σ H ⟨z, Dz, O, hw, g⟩
  unfold wS at hw
  refine ⟨z, _, O, hw, fun v hk => ?_⟩
  obtain ⟨z', hz, hk⟩ := hk
  obtain ⟨e0, H', hp, O'⟩ := O.put hz
  exact ⟨.ref p, e0, p, H', rfl, hp, g.nx _ _ _ O' hk⟩
theorem s_aug (cx : NC mx X cn) {x k : Str} {y : Ky} {op : Operator} {e : Expr} {ve : E} {p1 p2 p3 pos : Pos} {j : Nat} (hi : cn.ix x = some 0) (hy : kyOf k = some y) (h : PE X e (tE p c ns mx H0 σ0 ve)) :
    PS X (.AugAssign (.Subscript (.Name x p1) (.Constant (.str k) j p2) p3) op e pos) (tS p c ns mx H0 σ0 (.aug y op ve)) := by
  have hk := kyOf_ok hy
  subst hk
  have fin : ∀ {rd : V → V → Hp → VK → Prop}, InOp X op rd → (∀ (z : Z) (σ : L2.St) (H : Hp) (v w : Int) (Dz : Ends) (D : L2.Ends), NOK p c ns H0 σ0 z σ H → EOK p c ns H0 σ0 Dz D → (match op with
    | .Add => ∃ z', z.put y (v + w) = some z' ∧ Dz.nx z'
    | .Sub => ∃ z', z.put y (v - w) = some z' ∧ Dz.nx z'
    | _ => False) → rd (.int v) (.int w) H fun z H4 => ∃ H5, DPut H4 p (.str y.str) z H5 ∧ D.nx σ H5) → PS X (.AugAssign (.Subscript (.Name x p1) (.Constant (.str y.str) j p2) p3) op e pos) (tS p c ns mx H0 σ0 (.aug y op ve)) := fun hop hh => by
    refine ps_imp (ps_daug cx.un (pvar cx hi) pe_str h hop (fun _ _ _ => rfl)) ?_
    rintro D σ H ⟨z, Dz, O, hw, g⟩
    unfold wS at hw
    obtain ⟨v, hv, hw⟩ := hw
    obtain ⟨e0, gd⟩ := O.get hv
    exact ⟨.ref p, e0, p, _, rfl, gd, z, _, O, hw, fun w hk => hh z σ H v w Dz D O g hk⟩
  have no : InOp X op (fun _ _ _ _ => False) := fun _ _ _ _ _ _ _ _ _ _ _ _ z => z.elim
  cases op with
  | Add =>
    refine fin in_add fun z σ H v w Dz D O g hq => ?_
    obtain ⟨z', hz, hk⟩ := hq
    obtain ⟨e0, H', hp, O'⟩ := O.put hz
    exact ⟨v, w, rfl, rfl, H', hp, g.nx _ _ _ O' hk⟩
  | Sub =>
    refine fin in_sub fun z σ H v w Dz D O g hq => ?_
    obtain ⟨z', hz, hk⟩ := hq
    obtain ⟨e0, H', hp, O'⟩ := O.put hz
    exact ⟨v, w, rfl, rfl, H', hp, g.nx _ _ _ O' hk⟩
  | _ => exact fin no fun z σ H v w Dz D O g h => h.elim
theorem s_for (cx : NC mx X cn) {x : Str} {i j : Nat} {m : Int} {b : List Stmt} {vb : Ss} {p1 p2 p3 p4 pos : Pos} (hg : cn.gl "range" = true) (hi : cn.ix x = some i) (hb : PSs X b (tSs p c ns mx H0 σ0 vb)) :
    PS X (.For (.Name x p1) (.Call (.Name "range" p2) [.Constant (.int m) j p3] [] p4) b [] pos) (tS p c ns mx H0 σ0 (.for i m vb)) := by
  obtain ⟨h1, h2, h3⟩ := CN.ix_ok cx hi
  obtain ⟨g1, g2⟩ := CN.gl_ok cx hg
  refine ps_imp (ps_for cx.po cx.calm (pi_range1 g1 cx.rng (pa_cons pe_int pa_nil rfl) rfl) (pg_name cx.nd h1 (.inl h2) (.inr h2)) hb (fun _ => rfl)) ?_
  rintro D σ H ⟨z, Dz, O, hw, g⟩
  unfold wS at hw
  obtain ⟨⟨w1, w2, w3⟩, hw⟩ := hw
  refine ⟨m, rfl, by omega, by omega, ?_⟩
  generalize hst : (fun v z nx bk => wSs ns mx vb { z with l := z.l.set i (some v) } { nx := nx, bk := bk, rt := Dz.rt } : Int → Z → (Z → Prop) → (Z → Prop) → Prop) = step at hw
  refine ⟨fun k n σ H => n = m.toNat - k ∧ k ≤ m.toNat ∧ ∃ z, NOK p c ns H0 σ0 z σ H ∧ forN step Dz.nx (m.toNat - k) (k : Nat) z, ⟨m.toNat, by simp, Nat.zero_le _, z, O, hw⟩, ?_⟩
  rintro k n σ2 H2 ⟨rfl, hle, z2, O2, hk2⟩
  by_cases hlt : k < m.toNat
  · obtain ⟨r, hr⟩ : ∃ r, m.toNat - k = r + 1 := ⟨m.toNat - k - 1, by omega⟩
    rw [hr] at hk2
    have hk2 : step (k : Nat) z2 (forN step Dz.nx r ((k : Nat) + 1)) Dz.nx := hk2
    rw [← hst] at hk2
    refine .inr ⟨hlt, fun σ' H' => ∃ z', NOK p c ns H0 σ0 z' σ' H' ∧ forN step Dz.nx r ((k : Nat) + 1) z', fun σ' H' ⟨z', O', h'⟩ => ⟨m.toNat - (k + 1), by omega, rfl, hlt, z', O', ?_⟩, fun x' H' hy => ?_⟩
    · have e : m.toNat - (k + 1) = r := by omega
      rw [e]
      exact h'
    · obtain ⟨rfl, rfl⟩ := hy
      have e : (0 : Int) + (k : Nat) = (k : Nat) := by omega
      rw [e]
      exact ⟨_, _, O2.set (v := (k : Nat)) w1, hk2, ⟨fun σ' H' z' O' hk => ⟨z', O', by subst hst; exact hk⟩, fun σ' H' z' O' hk => g.nx _ _ _ O' hk, g.rt⟩⟩
  · have e : m.toNat - k = 0 := by omega
    rw [e] at hk2
    exact .inl ⟨Nat.le_of_sub_eq_zero e, g.nx _ _ _ O2 hk2⟩

theorem s_all (cx : NC mx X cn) : ∀ (n : Nat) (s : Stmt), PS X s (tS p c ns mx H0 σ0 (cs n cn s))
  | 0, s => by unfold cs; exact sbad
  | n + 1, s => by
    have ih := s_all cx n
    have hE : ∀ e, PE X e (tE p c ns mx H0 σ0 (ce n cn e)) := e_all cx n
    unfold cs
    split
    · refine ps_imp ps_break ?_
      rintro D σ H ⟨z, Dz, O, hw, g⟩
      unfold wS at hw
      exact g.bk _ _ _ O hw
    · refine ps_imp (ps_ret (hE _)) ?_
      rintro D σ H ⟨z, Dz, O, hw, g⟩
      unfold wS at hw
      exact ⟨z, _, O, hw, fun v hk => g.rt _ _ _ v O hk⟩
    · split
      · exact sbad
      · exact sbad
      · exact sbad
      · rename_i i hi h1 h2 h3
        exact s_set cx hi (hE _) (swaps_plain (fun a b c d z => h1 _ _ _ _ z) (fun a b c d z => h2 _ _ _ _ z) (fun a b c d f z => h3 _ _ _ _ _ z))
      · exact sbad
    · split
      · exact sbad
      · exact sbad
      · exact sbad
      · rename_i h1 h2 h3
        split
        · split
          · exact s_put cx ‹_› ‹_› (hE _) (swaps_plain (fun a b c d z => h1 _ _ _ _ z) (fun a b c d z => h2 _ _ _ _ z) (fun a b c d f z => h3 _ _ _ _ _ z))
          · exact sbad
        · exact sbad
    · split
      · split
        · exact s_aug cx ‹_› ‹_› (hE _)
        · exact sbad
      · exact sbad
    · refine ps_imp (ps_if (t_all (p := p) (c := c) (ns := ns) (H0 := H0) (σ0 := σ0) cx n _) (s_list ih _) (s_list ih _)) ?_
      rintro D σ H ⟨z, Dz, O, hw, g⟩
      unfold wS at hw
      refine ⟨z, _, O, hw, fun b hk => ?_⟩
      cases b with
      | true => exact L2.iteT ⟨z, Dz, O, hk.1 rfl, g⟩
      | false => exact L2.iteF ⟨z, Dz, O, hk.2 rfl, g⟩
    · split
      · rename_i h
        obtain ⟨h1, h2⟩ := h
        subst h2
        split
        · exact s_for cx h1 ‹_› (s_list ih _)
        · exact sbad
      · exact sbad
    · exact sbad
end
/-- a def of numbers -/
theorem fn_nl {mx : Int → Int → Int} {P : Program} {w : World} {K : PySem.W.Frag} {mg : Str → Option Value} {base : Heap} {cn : CN} {lv n : Nat} {x qual : Str} {params : Arguments} {body : List Stmt} {f : Addr} {fd : FuncData} {ps : List Str} {ir : Ss} {sp : Sp}
    (F : FunD K x qual params body cn.sc [] [] f fd) (Sc : FnScope cn.N ps cn.sc) (hlen : mg "len" = none) (hint : mg "int" = none) (habs : mg "abs" = none) (hrng : mg "range" = none)
    (hmix : cn.gl "_law_mix" = true → ∃ f fd ps, FnOk P w K mg base (L2N.CX P w) lv f fd ps (spMix mx) ∧ mg "_law_mix" = some (.ref f) ∧ PySem.W.keepIn K (.ref f) = true ∧ Binds K fd ps [])
    (hir : mapN (cs n cn) body = ir) (len : ∀ vs H Q E, sp vs H Q E → vs.length = ps.length)
    (hval : ∀ vs H Q E, sp vs H Q E → ∃ (p c : Addr) (ns : List Int) (z : Z) (Dz : Ends), NOK p c ns H (L2.start cn.N vs) z (L2.start cn.N vs) H ∧ wSs ns mx ir z Dz ∧ (∀ σ' H' z' v, NOK p c ns H (L2.start cn.N vs) z' σ' H' → Dz.rt v z' → Q (.int v) H') ∧ (∀ z, ¬ Dz.nx z) ∧ ∀ z, ¬ Dz.bk z) :
    FnOk P w K mg base (L2N.CX P w) (lv + 1) f fd ps sp := by
  refine F.ok Sc len (fun cdv A outer s H vs Q E hr h => ?_)
  obtain ⟨p, c, ns, z, Dz, O, hw, hrt, hnx, hbk⟩ := hval vs H Q E h
  have cx : NC mx (cxOf (L2N.CX P w) P w K mg base cn.N qual cn.sc f cdv A outer s H E) cn := {
    hN := rfl
    sc := rfl
    nd := Sc.nd
    calm := rfl
    po := passes_of (K := fun e s' => L2N.CX P w outer H s E e s') rfl
    un := by have := hr.un; show (A.deeper _).units + 1 < cLine; omega
    len := hlen
    int := hint
    abs := habs
    rng := hrng
    mix := fun hg => by
      obtain ⟨g, gd, qs, G, g1, g2, g3⟩ := hmix hg
      exact ⟨lv, g, gd, qs, G, hr, g1, g2, g3⟩ }
  refine ⟨tSs p c ns mx H (L2.start cn.N vs) (mapN (cs n cn) body), s_list (fun s => s_all cx n s) body, ?_⟩
  rw [hir]
  exact ⟨z, Dz, O, hw, ⟨fun σ' H' z' O' hk => (hnx _ hk).elim, fun σ' H' z' O' hk => (hbk _ hk).elim, fun σ' H' z' v O' hk => hrt σ' H' z' v O' hk⟩⟩
end NL
end VL
set_option maxHeartbeats 4000000
/-! VLq: the defs of the store. -/
namespace VL
open PySem PySem.Spec PyProof.Rows L2
namespace NL
/-- _law_mix: ['cell', 'turn', 'low', 'one', 'two'] -/
def ir_law_mix : Ss := (.cons (.set 2 (.bin .Mod (.toi (.var 0)) (.lit 2147483647)))
  (.cons (.set 3 (.bin .Mod (.toi (.bin .Add (.bin .Add (.bin .Mult (.var 2) (.lit 48271)) (.bin .Mult (.var 1) (.lit 69621))) (.lit 12820163))) (.lit 2147483629)))
  (.cons (.set 4 (.bin .Mod (.toi (.bin .Add (.bin .Add (.bin .Add (.bin .Mult (.var 3) (.var 3)) (.bin .Mult (.var 3) (.lit 40692))) (.bin .Mult (.var 1) (.lit 7919))) (.lit 374761))) (.lit 2147483587)))
  (.cons (.ret (.bin .Mod (.toi (.bin .Add (.bin .Mult (.var 4) (.bin .Add (.bin .FloorDiv (.var 4) (.lit 32768)) (.lit 3))) (.bin .FloorDiv (.var 3) (.lit 7)))) (.lit 2147483563)))
  .nil))))
def takeBody : Ss := (.cons (.ifS (.or (.cmp .Gt (.get .rest) (.lit 0)) (.or (.cmp .Gt (.get .left) (.lit 0)) (.cmp .GtE (.get .at) .ncells))) (.cons .brk
  .nil) .nil)
  (.cons (.set 3 (.abs (.cell (.get .at))))
  (.cons (.aug .at .Add (.lit 1))
  (.cons (.ifS (.cmp .Lt (.var 3) (.bin .Pow (.lit 10) (.lit 18))) (.cons (.put .left (.lit 3))
  .nil) (.cons (.put .rest (.bin .Mod (.toi (.var 3)) (.bin .Pow (.bin .Pow (.lit 10) (.lit 60)) (.lit 14))))
  .nil))
  .nil))))
def takeSeven : Ss := (.cons (.set 6 (.bin .Add (.bin .Mult (.var 6) (.lit 2147483563)) (.mix (.var 5) (.bin .Add (.get .turn) (.bin .Mult (.lit 1000) (.bin .Add (.var 2) (.lit 1)))))))
  .nil)
def takeEnd : Ss := (.cons (.set 6 (.mix (.var 5) (.get .turn)))
  (.cons (.ifS (.cmp .Gt (.var 1) (.bin .Pow (.lit 10) (.lit 6))) (.cons (.for 2 7 takeSeven)
  .nil) .nil)
  (.cons (.ret (.bin .Mod (.toi (.var 6)) (.var 1)))
  .nil)))
def takeTail : Ss := (.cons (.aug .turn .Add (.lit 1))
  (.cons (.set 4 (.toi (.get .rest)))
  (.cons (.ifS (.cmp .Gt (.var 4) (.lit 0)) (.cons (.put .rest (.bin .FloorDiv (.var 4) (.var 1)))
  (.cons (.ret (.bin .Mod (.toi (.var 4)) (.var 1)))
  .nil)) .nil)
  (.cons (.set 5 (.get .seed))
  (.cons (.ifS (.cmp .Gt (.get .left) (.lit 0)) (.cons (.aug .left .Sub (.lit 1))
  (.cons (.set 5 (.cell (.bin .Sub (.get .at) (.lit 1))))
  .nil)) .nil)
  takeEnd)))))
def ir_law_take : Ss := (.cons (.ifS (.cmp .Lt (.var 1) (.lit 2)) (.cons (.ret (.lit 0))
  .nil) .nil)
  (.cons (.for 2 64 takeBody) takeTail))
def mixV (i t : Int) : Int :=
  let one := ((i % 2147483647) * 48271 + t * 69621 + 12820163) % 2147483629
  let two := (one * one + one * 40692 + t * 7919 + 374761) % 2147483587
  (two * (two / 32768 + 3) + one / 7) % 2147483563
theorem mixV_b (i t : Int) : 0 ≤ mixV i t ∧ mixV i t < 2147483563 := ⟨Int.emod_nonneg _ (by decide), Int.emod_lt_of_pos _ (by decide)⟩
theorem bits_le (j : Int) : Builtin.Int.intBits j ≤ j.natAbs.log2 + 1 := by
  unfold Builtin.Int.intBits
  split <;> omega
theorem bits_small {j : Int} (h0 : 0 ≤ j) (h : j < 2 ^ 63) : Builtin.Int.intBits j ≤ 64 := by
  have b := bits_le j
  by_cases h2 : j.natAbs = 0
  · rw [h2] at b
    have e : Nat.log2 0 = 0 := by decide
    rw [e] at b
    omega
  · have := (Nat.log2_lt h2).mpr (show j.natAbs < 2 ^ 63 by omega)
    omega
theorem mulS {i j : Int} (h0 : 0 ≤ j) (h : j < 2 ^ 63) : MulOk i j := .inr (.inr (bits_small h0 h))
theorem mix_val (ns : List Int) (mx : Int → Int → Int) (i t : Int) (K : Int → Z → Prop) (h : ∀ l, K (mixV i t) ⟨false, l, 0, 0, 0, 0, 0⟩) :
    wSs ns mx ir_law_mix ⟨false, [some i, some t, none, none, none], 0, 0, 0, 0, 0⟩ ⟨fun _ => False, fun _ => False, K⟩ := by
  unfold ir_law_mix
  simp [wSs, wS, wE, bin, mulS]
  refine ⟨mulS (Int.emod_nonneg _ (by decide)) (Int.lt_trans (Int.emod_lt_of_pos _ (by decide)) (by decide)), by decide, .inr (.inl (bits_small (Int.emod_nonneg _ (by decide)) (Int.lt_trans (Int.emod_lt_of_pos _ (by decide)) (by decide)))), by decide, h _⟩
theorem mulL {i j : Int} (h0 : 0 ≤ i) (h : i < 2 ^ 63) : MulOk i j := .inr (.inl (bits_small h0 h))
theorem atI_of {ns : List Int} {a : Int} (h0 : 0 ≤ a) (h1 : a < ns.length) : ∃ v, L2.atI ns a = some v := by
  have hl : a.toNat < ns.length := by omega
  refine ⟨ns[a.toNat], ?_⟩
  unfold L2.atI L2.ixN
  rw [if_pos h0, if_pos h1]
  exact List.getElem?_eq_getElem hl
theorem body_val {ns : List Int} {mx : Int → Int → Int} {y : Option Int} {a r f t s m v : Int} {nx bk : Z → Prop} {K : Int → Z → Prop} (hB : StoB ns a r f t s) (hbk : bk ⟨true, [none, some m, some v, y, none, none, none], a, r, f, t, s⟩)
    (hnx : ∀ y a r f, StoB ns a r f t s → nx ⟨true, [none, some m, some v, y, none, none, none], a, r, f, t, s⟩) : wSs ns mx takeBody ⟨true, [none, some m, some v, y, none, none, none], a, r, f, t, s⟩ ⟨nx, bk, K⟩ := by
  unfold takeBody
  simp [wSs, wS, wT, wE, cmp, bin, Z.get, Z.put]
  refine ⟨fun _ => hbk, fun hr => ⟨fun _ => hbk, fun hf => ⟨fun _ => hbk, fun ha => ?_⟩⟩⟩
  obtain ⟨v1, e1⟩ := atI_of hB.a0 ha
  have b1 := hB.a0
  have b2 := hB.r0
  have b3 := hB.l0
  have b4 := hB.r1
  have b5 := hB.l1
  refine ⟨v1, e1, by decide, fun _ => hnx _ _ _ _ ⟨by omega, by omega, b2, b4, by omega, by omega, fun _ => by omega, hB.t0, hB.s0, hB.s1⟩, fun _ => ⟨by decide, by decide, hnx _ _ _ _ ⟨by omega, by omega, Int.emod_nonneg _ (by decide), Int.emod_lt_of_pos _ (by decide), b3, b5, fun h => by omega, hB.t0, hB.s0, hB.s1⟩⟩⟩
theorem seven_val {ns : List Int} {mx : Int → Int → Int} {y : Option Int} {rr b a r f t s m : Int} {K : Int → Z → Prop} {nx : Z → Prop} (step) (hs : step = fun (v : Int) (z : Z) (nx bk : Z → Prop) => wSs ns mx takeSeven { z with l := z.l.set 2 (some v) } ⟨nx, bk, K⟩)
    (h : ∀ x g, nx ⟨true, [none, some m, x, y, some rr, some b, some g], a, r, f, t, s⟩) : ∀ (n : Nat) (i : Int) (x : Option Int) (g : Int), forN step nx n i ⟨true, [none, some m, x, y, some rr, some b, some g], a, r, f, t, s⟩
  | 0, i, x, g => h x g
  | n + 1, i, x, g => by
    unfold forN
    have ih := seven_val step hs h n (i + 1)
    generalize forN step nx n (i + 1) = q at ih ⊢
    rw [hs]
    unfold takeSeven
    simp [wSs, wS, wE, bin, Z.get, mulS, mulL]
    exact ih _ _
theorem end_val {ns : List Int} {mx : Int → Int → Int} {x y g0 : Option Int} {rr b a r f t s m : Int} {K : Int → Z → Prop} (h2 : 2 ≤ m) (hK : ∀ (v : Int) z, 0 ≤ v → v < m → (∃ l, z = (⟨true, l, a, r, f, t, s⟩ : Z)) → K v z) :
    wSs ns mx takeEnd ⟨true, [none, some m, x, y, some rr, some b, g0], a, r, f, t, s⟩ ⟨fun _ => False, fun _ => False, K⟩ := by
  have last : ∀ x g, K (g % m) ⟨true, [none, some m, x, y, some rr, some b, some g], a, r, f, t, s⟩ := fun x g => hK _ _ (Int.emod_nonneg _ (by omega)) (Int.emod_lt_of_pos _ (by omega)) ⟨_, rfl⟩
  unfold takeEnd
  simp [wSs, wS, wT, wE, cmp, bin, Z.get]
  refine ⟨by decide, fun hm => ?_, fun hm => ⟨by omega, last _ _⟩⟩
  exact seven_val _ rfl (fun x g => ⟨g, rfl, m, rfl, by omega, last x g⟩) 7 0 _ _
theorem tail_val {ns : List Int} {mx : Int → Int → Int} {x y : Option Int} {a r f t s m : Int} {K : Int → Z → Prop} (hB : StoB ns a r f t s) (h2 : 2 ≤ m) (hm : m.natAbs.log2 < 9000) (hK : ∀ (v : Int) z, 0 ≤ v → v < m → (∃ l a r f t, z = (⟨true, l, a, r, f, t, s⟩ : Z) ∧ StoB ns a r f t s) → K v z) :
    wSs ns mx takeTail ⟨true, [none, some m, x, y, none, none, none], a, r, f, t, s⟩ ⟨fun _ => False, fun _ => False, K⟩ := by
  have b1 := hB.a0
  have b2 := hB.r0
  have b3 := hB.l0
  have b4 := hB.r1
  have b5 := hB.l1
  have b6 := hB.t0
  have b7 := hB.a1
  have b8 := hB.la
  unfold takeTail
  simp [wSs, wS, wT, wE, cmp, bin, Z.get, Z.put]
  refine ⟨fun hr => ⟨⟨by omega, hm⟩, by omega, hK _ _ (Int.emod_nonneg _ (by omega)) (Int.emod_lt_of_pos _ (by omega)) ⟨_, _, _, _, _, rfl, b1, b7, ?_, ?_, b3, b5, b8, by omega, hB.s0, hB.s1⟩⟩, fun hr => ⟨fun hf => ?_, fun hf => ?_⟩⟩
  · exact Int.ediv_nonneg b2 (by omega)
  · exact Int.lt_of_le_of_lt (Int.ediv_le_self _ b2) b4
  · have h9 := b8 hf
    obtain ⟨v, ev⟩ := atI_of (ns := ns) (a := a - 1) (by omega) (by omega)
    refine ⟨v, ev, end_val h2 fun v z h0 h1 hz => ?_⟩
    obtain ⟨l, rfl⟩ := hz
    exact hK _ _ h0 h1 ⟨_, _, _, _, _, rfl, b1, b7, b2, b4, by omega, by omega, fun _ => h9, by omega, hB.s0, hB.s1⟩
  · refine end_val h2 fun v z h0 h1 hz => ?_
    obtain ⟨l, rfl⟩ := hz
    exact hK _ _ h0 h1 ⟨_, _, _, _, _, rfl, b1, b7, b2, b4, b3, b5, b8, by omega, hB.s0, hB.s1⟩
theorem loop_val {ns : List Int} {mx : Int → Int → Int} {t s m : Int} {K : Int → Z → Prop} {nx : Z → Prop} (step) (hs : step = fun (v : Int) (z : Z) (nx bk : Z → Prop) => wSs ns mx takeBody { z with l := z.l.set 2 (some v) } ⟨nx, bk, K⟩)
    (h : ∀ x y a r f, StoB ns a r f t s → nx ⟨true, [none, some m, x, y, none, none, none], a, r, f, t, s⟩) : ∀ (n : Nat) (i : Int) (x y : Option Int) (a r f : Int), StoB ns a r f t s → forN step nx n i ⟨true, [none, some m, x, y, none, none, none], a, r, f, t, s⟩
  | 0, i, x, y, a, r, f, hB => h x y a r f hB
  | n + 1, i, x, y, a, r, f, hB => by
    unfold forN
    have ih := loop_val step hs h n (i + 1)
    generalize forN step nx n (i + 1) = q at ih ⊢
    rw [hs]
    exact body_val hB (h _ _ _ _ _ hB) fun y a r f hB => ih _ _ _ _ _ hB
theorem take_val {ns : List Int} {mx : Int → Int → Int} {a r f t s m : Int} {K : Int → Z → Prop} (hB : StoB ns a r f t s) (hm : m.natAbs.log2 < 9000) (hK : ∀ (v : Int) z, 0 ≤ v → (v < m ∨ v = 0) → (∃ l a r f t, z = (⟨true, l, a, r, f, t, s⟩ : Z) ∧ StoB ns a r f t s) → K v z) :
    wSs ns mx ir_law_take ⟨true, [none, some m, none, none, none, none, none], a, r, f, t, s⟩ ⟨fun _ => False, fun _ => False, K⟩ := by
  unfold ir_law_take
  simp [wSs, wS, wT, wE, cmp]
  refine ⟨fun h => hK _ _ (by omega) (.inr rfl) ⟨_, _, _, _, _, rfl, hB⟩, fun h => ?_⟩
  exact loop_val _ rfl (fun x y a r f hB => tail_val hB h hm fun v z h0 h1 hz => hK v z h0 (.inl h1) hz) 64 0 _ _ _ _ _ hB
end NL
end VL
set_option maxHeartbeats 4000000
/-! VLr: the contracts of the store's defs. -/
namespace VL
open PySem PySem.Spec PyProof.Rows L2
/-- what _law_take promises -/
def vTake : VSp := { α := Int, arg := fun m => [.tok, .int m], pre := fun m => m.natAbs.log2 < 9000, post := fun m o d => o = false ∧ ∃ r, d = .int r ∧ 0 ≤ r ∧ (r < m ∨ r = 0), exc := fun _ _ => False }
section
variable {C : CT} {P : Program} {w : World} {K : PySem.W.Frag} {mg : Str → Option Value} {base : Heap} {f : Addr} {fd : FuncData} {params : Arguments} {body : List Stmt} {sc : Scope} {fuel : Nat}
abbrev NMix : List Str := ["cell", "turn", "low", "one", "two"]
abbrev NTake : List Str := ["store", "many", "k", "cell", "rest", "base", "got"]
theorem ok_mix (F : FunD K "_law_mix" "_law_mix" params body sc [] [] f fd) (Sc : FnScope NMix ["cell", "turn"] sc) (hlen : mg "len" = none) (hint : mg "int" = none) (habs : mg "abs" = none) (hrng : mg "range" = none)
    (hng : (NL.CN.mk NMix sc).gl "_law_mix" = false) (hir : NL.mapN (NL.cs fuel ⟨NMix, sc⟩) body = NL.ir_law_mix) : FnOk P w K mg base (L2N.CX P w) 1 f fd ["cell", "turn"] (NL.spMix NL.mixV) := by
  refine NL.fn_nl (mx := NL.mixV) (cn := ⟨NMix, sc⟩) (lv := 0) F Sc hlen hint habs hrng (fun h => by rw [hng] at h; cases h) hir (fun vs H Q E h => ?_) (fun vs H Q E h => ?_)
  · obtain ⟨i, j, rfl, _⟩ := h
    rfl
  · obtain ⟨i, j, rfl, hq⟩ := h
    refine ⟨0, 0, [], ⟨false, [some i, some j, none, none, none], 0, 0, 0, 0, 0⟩, ⟨fun _ => False, fun _ => False, fun v z => v = NL.mixV i j ∧ z.live = false⟩, ⟨(fun h => by cases h), fun _ => rfl, fun k v h => ?_, rfl, ?_⟩, ?_, fun σ' H' z' v O hk => ?_, fun _ => id, fun _ => id⟩
    · match k, h with
      | 0, h => cases h; rfl
      | 1, h => cases h; rfl
      | 2, h => cases h
      | 3, h => cases h
      | 4, h => cases h
      | k + 5, h => cases h
    · exact fun _ _ => rfl
    · exact NL.mix_val [] NL.mixV i j (fun v z => v = NL.mixV i j ∧ (z.live = false)) fun _ => ⟨rfl, rfl⟩
    · rw [hk.1, O.dead hk.2]
      exact hq
theorem ok_take (hK : C.K = K) (F : FunD K "_law_take" "_law_take" params body sc [] [] f fd) (Sc : FnScope NTake ["store", "many"] sc) (hlen : mg "len" = none) (hint : mg "int" = none) (habs : mg "abs" = none) (hrng : mg "range" = none)
    {fm : Addr} {fdm : FuncData} {psm : List Str} (Fm : FnOk P w K mg base (L2N.CX P w) 1 fm fdm psm (NL.spMix NL.mixV)) (gm : mg "_law_mix" = some (.ref fm)) (km : PySem.W.keepIn K (.ref fm) = true) (bm : Binds K fdm psm [])
    (hir : NL.mapN (NL.cs fuel ⟨NTake, sc⟩) body = NL.ir_law_take) : FnOk P w K mg base (L2N.CX P w) 2 f fd ["store", "many"] (lift C Cold vTake) := by
  refine NL.fn_nl (mx := NL.mixV) (cn := ⟨NTake, sc⟩) (lv := 1) F Sc hlen hint habs hrng (fun _ => ⟨fm, fdm, psm, Fm, gm, km, bm⟩) hir (fun vs H Q E h => ?_) (fun vs H Q E h => ?_)
  · obtain ⟨S, Fz, x, _, _, _, r, _⟩ := h
    rw [r.len] <;> rfl
  · obtain ⟨S, Fz, m, hc, hs, st, r, hp, hq, _⟩ := h
    obtain ⟨a, rr, l, t, s, hd, hB⟩ := st.st
    have r' : Reps C S Fz [.tok, .int m] vs := r
    unfold Reps at r'
    obtain ⟨v1, vr, rfl, h1, r'⟩ := r'
    unfold Reps at r'
    obtain ⟨v2, vr2, rfl, h2, r'⟩ := r'
    unfold Reps at r'
    unfold Rep at h1 h2
    subst r' h1 h2
    have eH : H = upd H S.p (.dK (stoL S.c a rr l t s)) := by
      funext b
      by_cases hb : b = S.p
      · subst hb; rw [upd_same]; exact hd
      · rw [upd_ne hb]
    have hcp : S.c ≠ S.p := fun z => by
      have := st.cells
      rw [z, st.free] at this
      cases this
    refine ⟨S.p, S.c, S.ns, ⟨true, [none, some m, none, none, none, none, none], a, rr, l, t, s⟩, ⟨fun _ => False, fun _ => False, fun v z => 0 ≤ v ∧ (v < m ∨ v = 0) ∧ z.live = true ∧ StoB S.ns z.a z.r z.f z.t z.s⟩, ⟨fun _ => ⟨rfl, rfl, eH, hs _ _ st.cells, hcp⟩, (fun h => by cases h), fun k v h => ?_, rfl, fun _ _ => rfl⟩, ?_, fun σ' H' z' v O hk => ?_, fun _ => id, fun _ => id⟩
    · match k, h with
      | 0, h => cases h
      | 1, h => cases h; rfl
      | 2, h => cases h
      | 3, h => cases h
      | 4, h => cases h
      | 5, h => cases h
      | 6, h => cases h
      | k + 7, h => cases h
    · exact NL.take_val hB hp fun v z h0 h1 ⟨l', a', r', f', t', e, hB'⟩ => by
        subst e
        exact ⟨h0, h1, rfl, hB'⟩
    · obtain ⟨h0, h1, hl, hB'⟩ := hk
      obtain ⟨_, _, eH', _, _⟩ := O.st hl
      refine hq false (.int v) (.int v) Fz H' ⟨rfl, v, rfl, h0, h1⟩ ?_ (by unfold Res; exact rep_int (C := C) (S := S) (F := Fz))
      refine ⟨Sub.refl Fz, fun b o hb => ?_, fun b o hb e => by rw [eH', upd_ne hb]; exact e, fun _ _ h => .inl h, st.cells, st.free, st.len, z'.a, z'.r, z'.f, z'.t, z'.s, by rw [eH', upd_same], hB'⟩
      have : b ≠ S.p := fun z => by rw [z, st.free] at hb; cases hb
      rw [eH', upd_ne this]
      exact hs _ _ hb

/-! ### _law_store -/
abbrev NStore : List Str := ["script", "cell", "cells", "seed", "k"]
/-- a new store: its cells, its seed -/
def spStore (K : PySem.W.Frag) : Sp := fun vs H Q _ => ∃ a ns, vs = [.ref a] ∧ SqL K H a ((ns : List Int).map V.int) ∧ ∀ p c s H', H p = none → H c = none → c ≠ p → (∀ b o, H b = some o → H' b = some o) → H' c = some (.lst ((ns.take 63).map V.int)) → H' p = some (.dK (stoL c 0 0 0 0 s)) → 0 ≤ s → s < 2147483647 → Q (.ref p) H'
abbrev storeIR : NL.Ss := .cons (.set 3 (.bin .Mod (.toi (.bin .Add (.bin .Mult (.var 3) (.lit 31)) (.mix (.var 1) (.var 4)))) (.lit 2147483629))) .nil
theorem ps_any {X : Cx} {ss : List Stmt} {T : Hp × L2.St → TS} (h : ∀ H0, PSs X ss (T H0)) : PSs X ss (fun D σ H => ∃ H0, T H0 D σ H) := ⟨fun pins s σ H D I ⟨H0, q⟩ => (h H0).run pins s σ H D I q⟩
theorem setcomp {X : Cx} {i : Nat} {y : Str} {py : Pos} {elt tg iter : Expr} {scope : Scope} {own : List (Str × Nat)} {pos spos : Pos} {wi : TI} {g : TG} {te : TE} (hc : X.calm = true) (hN : X.N.Nodup) (hy : X.N[i]? = some y) (hyl : X.env.scope.names.lookup y = some .local)
    (hi : PI X tg iter wi) (ok : BlkOk X.N X.env.scope scope own)
    (hg : ∀ (s : Shared) (H : Hp) (C : Addr) (cl : List (Str × Addr)) (fp : List Addr), PG (X.blk s H scope (compEnvC scope cl C X.env) fp) tg g)
    (he : ∀ (s : Shared) (H : Hp) (C : Addr) (cl : List (Str × Addr)) (fp : List Addr), PE (X.blk s H scope (compEnvC scope cl C X.env) fp) elt te) (hs : ∀ x, foldedSetIterable iter X.env x = pure x) :
    PS X (.Assign [.Name y py] (.ListComp elt [⟨tg, iter, [], 0⟩] scope pos) spos) (tAsg (tLc wi g tYes te (own.map (·.2))) (gName i)) := by
  obtain ⟨b, hsw, hb⟩ := swaps_name (elt := elt) (gens := [⟨tg, iter, [], 0⟩]) (scope := scope) (pos := pos) (t := y) (p := py) (l := spos.line) (env := X.env)
  cases b with
  | false => exact ps_set hN hy (.inl hyl) (pe_lc hc hN hi ok hg (fun _ _ _ _ _ => pts_nil) he hs) hsw (.inr hyl)
  | true => exact ps_setLc hc hN hy hyl hsw hi ok hg (fun _ _ _ _ _ => pts_nil) he hs
theorem store_for {H1 : Hp} {c : Addr} {xs : List Int} {σ : L2.St} {D : L2.Ends} {sd : Int} {v1 v4 : Option V} {s0 : Option V} (hc : H1 c = some (.lst (xs.map V.int))) (hσ : σ = [s0, v1, some (.ref c), some (.int sd), v4]) (hsd : 0 ≤ sd)
    (hlt : xs = [] → sd < 2147483647)
    (hD : ∀ s0 v1 v4 sd H', 0 ≤ sd → sd < 2147483647 → (∀ b o, H1 b = some o → H' b = some o) → D.nx [s0, v1, some (.ref c), some (.int sd), v4] H') :
    tFor (iEnum K (tCons (tVar 2) tNil)) (gTup K 2 (gCons (gName 4) (gCons (gName 1) gNil))) (fun D σ H => ∃ q : Hp × L2.St, NL.tSs 0 0 [] NL.mixV q.1 q.2 storeIR D σ H) D σ H1 := by
  subst hσ
  refine ⟨.ref c, rfl, c, xs.map V.int, rfl, .of hc, ?_⟩
  refine for_it (g := gTup K 2 (gCons (gName 4) (gCons (gName 1) gNil))) (tb := fun D σ H => ∃ q : Hp × L2.St, NL.tSs 0 0 [] NL.mixV q.1 q.2 storeIR D σ H) (D := D) (σ := [s0, v1, some (.ref c), some (.int sd), v4]) (H := H1) (walk_enum (K := K) (a := c) (xs := xs.map V.int)) (fun i σ H => (∀ b o, H1 b = some o → H b = some o) ∧ ∃ s0 v1 v4 sd, σ = [s0, v1, some (.ref c), some (.int sd), v4] ∧ 0 ≤ sd ∧ (i = xs.length → sd < 2147483647)) ⟨fun _ _ h => h, _, _, _, sd, rfl, hsd, fun h => hlt (List.length_eq_zero_iff.mp h.symm)⟩ (fun i σ H _ p => .of (p.1 _ _ hc)) (fun i x σ H H' hi p y => ?_) (fun σ H p => ?_)
  · obtain ⟨hk, s0, v1, v4, sd, rfl, h0, _⟩ := p
    obtain ⟨T, x1, x2, rfl, hT, rfl, e1, e2⟩ := y
    cases e1
    have e2 : (xs.map V.int)[i]? = some x2 := e2
    rw [List.getElem?_map] at e2
    obtain ⟨z, hz, e3⟩ := Option.map_eq_some_iff.mp e2
    subst e3
    refine ⟨T, _, rfl, .of upd_same, rfl, .int (i : Nat), _, rfl, .int z, _, rfl, rfl, (upd H T (.tup [.int (i : Nat), .int z]), [s0, some (.int z), some (.ref c), some (.int sd), some (.int (i : Nat))]), ⟨false, [none, some z, none, some sd, some (i : Nat)], 0, 0, 0, 0, 0⟩, ⟨fun z' => ∃ l w, z' = (⟨false, l, 0, 0, 0, 0, 0⟩ : NL.Z) ∧ l = [none, some z, none, some w, some (i : Nat)] ∧ 0 ≤ w ∧ w < 2147483629, fun _ => False, fun _ _ => False⟩, ⟨(fun h => by cases h), fun _ => rfl, fun k v h => ?_, rfl, fun _ _ => rfl⟩, ?_, ⟨fun σ' H' z' O hk' => ?_, fun _ _ _ _ hk' => hk'.elim, fun _ _ _ _ _ hk' => hk'.elim⟩⟩
    · match k, h with
      | 0, h => cases h
      | 1, h => cases h; rfl
      | 2, h => cases h
      | 3, h => cases h; rfl
      | 4, h => cases h; rfl
      | k + 5, h => cases h
    · simp [NL.wSs, NL.wS, NL.wE, NL.bin, NL.mulS]
      exact ⟨Int.emod_nonneg _ (by decide), Int.emod_lt_of_pos _ (by decide)⟩
    · obtain ⟨l, w', rfl, rfl, hw0, hw1⟩ := hk'
      have el := O.len
      have eH : H' = upd H T (.tup [.int (i : Nat), .int z]) := O.dead rfl
      have a0 := O.kp 0 rfl
      have a2 := O.kp 2 rfl
      have a1 := O.l 1 z rfl
      have a3 := O.l 3 w' rfl
      have a4 := O.l 4 (i : Nat) rfl
      refine ⟨fun b o hb => by rw [eH, upd_ne (ne_of_none (hk b o hb) hT)]; exact hk b o hb, s0, some (.int z), some (.int (i : Nat)), w', ?_, hw0, fun _ => by omega⟩
      match σ', el with
      | [b0, b1, b2, b3, b4], _ =>
        simp only [List.getElem?_cons_zero, List.getElem?_cons_succ, Option.some.injEq] at a0 a1 a2 a3 a4
        rw [a0, a1, a2, a3, a4]
  · obtain ⟨hk, s0, v1, v4, sd, rfl, h0, h1⟩ := p
    exact hD _ _ _ _ _ h0 (h1 (by rw [List.length_map])) hk

/-- the text of _law_store, whatever its places -/
theorem ok_store {p1 p2 p3 p4 p5 p6 p7 p8 p9 p10 p11 p12 p13 p14 p15 p16 p17 p18 p19 p20 p21 p22 p23 p24 p25 p26 p27 p28 p29 p30 p31 p32 p33 p34 p35 p36 p37 p38 p39 p40 p41 p42 p43 p44 p45 p46 p47 p48 p49 p50 p51 p52 p53 : Pos} {j1 j2 j3 j4 j5 j6 j7 j8 j9 j10 j11 j12 j13 j14 k1 : Nat} {scope : Scope}
    (hb : body = [.Assign [.Name "cells" p1] (.ListComp (.Call (.Name "int" p2) [.Name "cell" p3] [] p4) [⟨.Name "cell" p5, .Subscript (.Name "script" p6) (.Slice none (some (.Constant (.int 63) j1 p7)) none p8) p9, [], 0⟩] scope p10) p11,
      .Assign [.Name "seed" p12] (.BinOp (.Constant (.int 104729) j2 p13) .Add (.Call (.Name "len" p14) [.Name "cells" p15] [] p16) p17) p18,
      .For (.Tuple [.Name "k" p19, .Name "cell" p20] k1 p21) (.Call (.Name "enumerate" p22) [.Name "cells" p23] [] p24) [.Assign [.Name "seed" p25] (.BinOp (.Call (.Name "int" p26) [.BinOp (.BinOp (.Name "seed" p27) .Mult (.Constant (.int 31) j3 p28) p29) .Add (.Call (.Name "_law_mix" p30) [.Name "cell" p31, .Name "k" p32] [] p33) p34] [] p35) .Mod (.Constant (.int 2147483629) j4 p36) p37) p38] [] p39,
      .Return (some (.Dict [some (.Constant (.str "cells") j5 p40), some (.Constant (.str "at") j6 p41), some (.Constant (.str "rest") j7 p42), some (.Constant (.str "left") j8 p43), some (.Constant (.str "turn") j9 p44), some (.Constant (.str "seed") j10 p45)] [.Name "cells" p46, .Constant (.int 0) j11 p47, .Constant (.int 0) j12 p48, .Constant (.int 0) j13 p49, .Constant (.int 0) j14 p52, .Name "seed" p50] p51)) p53])
    (F : FunD K "_law_store" "_law_store" params body sc [] [] f fd) (Sc : FnScope NStore ["script"] sc) (hl : ∀ y ∈ NStore, sc.names.lookup y = some .local ∧ okN y = true) (hgl : ∀ y ∈ (["int", "len", "enumerate", "_law_mix"] : List Str), sc.names.lookup y = some .globalImplicit)
    (hblk : blkC NStore sc scope [("cell", 1)] = true) (hcell : (relS scope sc).names.lookup ("cell" : Str) = some .local) (hint2 : (relS scope sc).names.lookup ("int" : Str) = some .globalImplicit)
    (hlen : mg "len" = none) (hint : mg "int" = none) (habs : mg "abs" = none) (hrng : mg "range" = none) (henum : mg "enumerate" = none)
    {fm : Addr} {fdm : FuncData} {psm : List Str} (Fm : FnOk P w K mg base (L2N.CX P w) 1 fm fdm psm (NL.spMix NL.mixV)) (gm : mg "_law_mix" = some (.ref fm)) (km : PySem.W.keepIn K (.ref fm) = true) (bm : Binds K fdm psm []) :
    FnOk P w K mg base (L2N.CX P w) 2 f fd ["script"] (spStore K) := by
  have hloc : ∀ y, y ∈ NStore → sc.names.lookup y = some .local := fun y h => (hl y h).1
  have vis : ∀ y, y ∈ NStore → Vis sc y := fun y h => .inl (hl y h).1
  have dbg : ∀ y, y ∈ NStore → (y == ("__debug__" : Str)) = false ∧ (y == ("__classdict__" : Str)) = false := fun y h => okN_ok (hl y h).2
  refine F.ok Sc (fun vs H Q E h => ?_) (fun cdv A outer s H vs Q E hr h => ?_)
  · obtain ⟨a, ns, rfl, _⟩ := h
    rfl
  · subst hb
    have glob : ∀ y, y ∈ (["int", "len", "enumerate", "_law_mix"] : List Str) → Gl (cxOf (L2N.CX P w) P w K mg base NStore "_law_store" sc f cdv A outer s H E) y := fun y hy => hgl y hy
    have cx : NL.NC NL.mixV (cxOf (L2N.CX P w) P w K mg base NStore "_law_store" sc f cdv A outer s H E) ⟨NStore, sc⟩ := {
      hN := rfl
      sc := rfl
      nd := Sc.nd
      calm := rfl
      po := passes_of (K := fun e s' => L2N.CX P w outer H s E e s') rfl
      un := by have := hr.un; show (A.deeper _).units + 1 < cLine; omega
      len := hlen
      int := hint
      abs := habs
      rng := hrng
      mix := fun _ => ⟨1, fm, fdm, psm, Fm, hr, gm, km, bm⟩ }
    have body3 : ∀ q : Hp × L2.St, PSs (cxOf (L2N.CX P w) P w K mg base NStore "_law_store" sc f cdv A outer s H E) [.Assign [.Name "seed" p25] (.BinOp (.Call (.Name "int" p26) [.BinOp (.BinOp (.Name "seed" p27) .Mult (.Constant (.int 31) j3 p28) p29) .Add (.Call (.Name "_law_mix" p30) [.Name "cell" p31, .Name "k" p32] [] p33) p34] [] p35) .Mod (.Constant (.int 2147483629) j4 p36) p37) p38] (NL.tSs 0 0 [] NL.mixV q.1 q.2 storeIR) := fun q => by
      have h := NL.s_list (fun st => NL.s_all (p := 0) (c := 0) (ns := []) (H0 := q.1) (σ0 := q.2) cx 9 st) [.Assign [.Name "seed" p25] (.BinOp (.Call (.Name "int" p26) [.BinOp (.BinOp (.Name "seed" p27) .Mult (.Constant (.int 31) j3 p28) p29) .Add (.Call (.Name "_law_mix" p30) [.Name "cell" p31, .Name "k" p32] [] p33) p34] [] p35) .Mod (.Constant (.int 2147483629) j4 p36) p37) p38]
      have e : NL.mapN (NL.cs 9 ⟨NStore, sc⟩) [.Assign [.Name "seed" p25] (.BinOp (.Call (.Name "int" p26) [.BinOp (.BinOp (.Name "seed" p27) .Mult (.Constant (.int 31) j3 p28) p29) .Add (.Call (.Name "_law_mix" p30) [.Name "cell" p31, .Name "k" p32] [] p33) p34] [] p35) .Mod (.Constant (.int 2147483629) j4 p36) p37) p38] = storeIR := by
        have ix : ∀ (y : Str) (i : Nat), y ∈ NStore → ixOf y NStore = some i → (NL.CN.mk NStore sc).ix y = some i := fun y i hy hi => by
          unfold NL.CN.ix
          rw [if_pos (by rw [Bool.and_eq_true, decide_eq_true_eq]; exact ⟨(hl y hy).2, (hl y hy).1⟩)]
          exact hi
        have g : ∀ y, y ∈ (["int", "len", "enumerate", "_law_mix"] : List Str) → okN y = true → (NL.CN.mk NStore sc).gl y = true := fun y hy ho => by
          unfold NL.CN.gl
          rw [Bool.and_eq_true, decide_eq_true_eq]
          exact ⟨ho, hgl y hy⟩
        have i1 := ix "cell" 1 (by simp [NStore]) (by decide)
        have i3 := ix "seed" 3 (by simp [NStore]) (by decide)
        have i4 := ix "k" 4 (by simp [NStore]) (by decide)
        have g1 := g "int" (by simp) (by decide)
        have g2 := g "_law_mix" (by simp) (by decide)
        simp [NL.mapN, NL.cs, NL.ce, i1, i3, i4, g1, g2, isStar, storeIR]
      rw [e] at h
      exact h
    refine ⟨_, pss_cons (setcomp (i := 2) (own := [("cell", 1)]) rfl Sc.nd rfl (hloc _ (by simp [NStore])) (pi_list (pe_slice sl_list (pe_var (i := 0) rfl (vis _ (by simp [NStore])) (dbg _ (by simp [NStore])).1 (dbg _ (by simp [NStore])).2) po_none (po_some pe_int))) (blkOk_by hblk)
        (fun s H C cl fp => pg_name (i := 1) Sc.nd rfl (.inl hcell) (.inr hcell))
        (fun s H C cl fp => pe_callTy call_int1 hint2 hint (by decide +kernel) (pa_cons (pe_var (i := 1) rfl (.inl hcell) (dbg _ (by simp [NStore])).1 (dbg _ (by simp [NStore])).2) pa_nil rfl) (by decide) (by decide) rfl rfl) (fun _ => rfl))
      (pss_cons (ps_set (i := 3) Sc.nd rfl (.inl (hloc _ (by simp [NStore]))) (pe_op op_add pe_int (pe_callB call_len_seq (glob _ (by simp)) hlen boot_len (pa_cons (pe_var (i := 2) rfl (vis _ (by simp [NStore])) (dbg _ (by simp [NStore])).1 (dbg _ (by simp [NStore])).2) pa_nil rfl) (by decide) (by decide) rfl rfl)) rfl (.inl rfl))
      (pss_cons (ps_for cx.po rfl (pi_enum (glob _ (by simp)) henum (pa_cons (pe_var (i := 2) rfl (vis _ (by simp [NStore])) (dbg _ (by simp [NStore])).1 (dbg _ (by simp [NStore])).2) pa_nil rfl) rfl)
          (pg_tup (n := 2) rfl (pgs_cons (pg_name (i := 4) Sc.nd rfl (.inl (hloc _ (by simp [NStore]))) (.inl rfl)) (pgs_cons (pg_name (i := 1) Sc.nd rfl (.inl (hloc _ (by simp [NStore]))) (.inl rfl)) pgs_nil rfl) rfl) rfl rfl) (ps_any body3) (fun _ => rfl))
      (pss_one (ps_ret (pe_disp (pps_cons pe_str (pe_var (i := 2) rfl (vis _ (by simp [NStore])) (dbg _ (by simp [NStore])).1 (dbg _ (by simp [NStore])).2) (pps_cons pe_str pe_int (pps_cons pe_str pe_int (pps_cons pe_str pe_int (pps_cons pe_str pe_int (pps_cons pe_str (pe_var (i := 3) rfl (vis _ (by simp [NStore])) (dbg _ (by simp [NStore])).1 (dbg _ (by simp [NStore])).2) pps_nil)))))) rfl rfl (by simp) (by simp)))))), ?_⟩
    obtain ⟨a, ns, rfl, hsq, hq⟩ := h
    have ecut : cutV (ns.map V.int) none (some 63) = (ns.take 63).map V.int := by
      unfold cutV
      rw [HT.sIx_none, show (some (63 : Int)) = some (((63 : Nat) : Nat) : Int) from rfl, HT.sIx_nat, List.drop_zero, List.length_map, List.map_take, Nat.sub_zero]
      by_cases h : ns.length ≤ 63
      · rw [Nat.min_eq_right h, List.take_of_length_le (by rw [List.length_map]; omega), List.take_of_length_le (by rw [List.length_map]; omega)]
      · rw [Nat.min_eq_left (by omega)]
    refine ⟨.ref a, rfl, 63, rfl, a, ns.map V.int, rfl, hsq, fun q hq0 => ⟨q, rfl, ⟨_, .of upd_same⟩, fun D hD => ?_⟩⟩
    rw [ecut] at hD ⊢
    generalize exs : ns.take 63 = xs at *
    have hxl : xs.length ≤ 63 := by rw [← exs, List.length_take]; omega
    refine lc_list (K := K) (a := q) (xs := xs.map V.int) (fun i H' => H' D = some (.lst ((xs.take i).map V.int)) ∧ ∀ b o, upd H q (.lst (xs.map V.int)) b = some o → H' b = some o) ⟨upd_same, fun b o hb => by rw [upd_ne (ne_of_none hb hD)]; exact hb⟩ (fun i H' _ p => .of (p.2 _ _ upd_same)) (fun i x H' hx p => ?_) (fun H' p => ?_)
    · obtain ⟨p1, p2⟩ := p
      rw [List.getElem?_map] at hx
      obtain ⟨z, hz, rfl⟩ := Option.map_eq_some_iff.mp hx
      refine ⟨rfl, ?_⟩
      unfold tYes
      dsimp only
      rw [if_pos rfl]
      refine ⟨.int z, rfl, .inl ⟨z, rfl, _, p1, ?_, ?_, fun b o hb => ?_⟩⟩
      · rw [List.length_map, List.length_take, sizeLine_eq]; omega
      · rw [upd_same, List.take_add_one, hz, List.map_append] <;> rfl
      · rw [upd_ne (ne_of_none hb hD)]
        exact p2 b o hb
    · obtain ⟨p1, p2⟩ := p
      rw [List.length_map, List.take_length] at p1
      refine ⟨.ref D, rfl, D, xs.map V.int, rfl, .inl (.of p1), 104729, _, rfl, rfl, ?_⟩
      have hDq : ∀ b o, H b = some o → H' b = some o := fun b o hb => p2 b o (by rw [upd_ne (ne_of_none hb hq0)]; exact hb)
      have hHD : H D = none := by
        cases z : H D with
        | none => rfl
        | some o =>
          have : D ≠ q := ne_of_none z hq0
          rw [upd_ne this, z] at hD
          cases hD
      rw [List.length_map]
      refine store_for (c := D) (xs := xs) (sd := 104729 + (xs.length : Nat)) (v1 := none) (v4 := none) (s0 := some (.ref a)) p1 rfl (by omega) (fun h => by rw [h]; decide) fun s0 v1 v4 sd H2 h0 h1 hk => ?_
      intro p hp
      have hH2D := hk D _ p1
      have hpD : D ≠ p := fun z => by subst z; rw [hp] at hH2D; cases hH2D
      refine ⟨.ref D, rfl, .int sd, rfl, upd_same, stoL D 0 0 0 0 sd, rfl, by simp [stoL], ?_⟩
      have hHp : H p = none := by
        cases z : H p with
        | none => rfl
        | some o => rw [hk p o (hDq p o z)] at hp; cases hp
      refine hq p D sd _ hHp hHD hpD (fun b o hb => ?_) ?_ ?_ h0 h1
      · have : b ≠ p := ne_of_none hb hHp
        rw [upd_ne this, upd_ne this]
        exact hk b o (hDq b o hb)
      · rw [upd_ne hpD, upd_ne hpD]
        exact hH2D
      · rw [upd_same]
        rfl
end
end VL
set_option maxHeartbeats 4000000
/-! VLs: the law's def; the head's facts in VL's words. -/
namespace VL
open PySem PySem.Spec PyProof.Rows L2
def spLaw (K : PySem.W.Frag) : Sp := fun vs H Q _ => ∃ (a : Addr) (ns : List Int), vs = [.ref a] ∧ SqL K H a (ns.map V.int) ∧ ∀ H', Q (.bl true) H'
section
variable {C : CT} {Γ : Nat → VSp} {P : Program} {w : World} {mg : Str → Option Value} {base : Heap} {cc : CC} {lv : Nat}
theorem fn_law {fuel : Nat} {params : Arguments} {rest : List Stmt} {f : Addr} {fd : FuncData} {ir : VSs} {p1 p2 p3 p4 p5 : Pos} (M : Mod C Γ P w mg base cc lv)
    (F : FunD C.K "law" "law" params (.Assign [.Name "store" p1] (.Call (.Name "_law_store" p2) [.Name "script" p3] [] p4) p5 :: rest) cc.sc [] [] f fd) (Sc : FnScope cc.N ["script"] cc.sc) (hfn : cc.fn = fun _ => true) (hcold : cc.hot = false)
    (h0 : cc.N[0]? = some ("script" : Str)) (h1 : cc.N[1]? = some ("store" : Str)) (l0 : cc.sc.names.lookup ("script" : Str) = some .local) (l1 : cc.sc.names.lookup ("store" : Str) = some .local) (lg : cc.sc.names.lookup ("_law_store" : Str) = some .globalImplicit)
    {fs : Addr} {fds : FuncData} {pss : List Str} (Fs : FnOk P w C.K mg base (L2N.CX P w) lv fs fds pss (spStore C.K)) (gs : mg "_law_store" = some (.ref fs)) (ks : PySem.W.keepIn C.K (.ref fs) = true) (bs : Binds C.K fds pss [])
    (hir : mapS (cS fuel cc) rest = ir) (hval : wSs Γ ir (.un :: .val .tok :: List.replicate (cc.N.length - 2) .un) { nx := fun _ => False, rt := fun o d => o = false ∧ d = .bl true } fun _ _ => False) :
    FnOk P w C.K mg base (L2N.CX P w) (lv + 1) f fd ["script"] (spLaw C.K) := by
  have hlen : 2 ≤ cc.N.length := by
    have := (List.getElem?_eq_some_iff.mp h1).1
    omega
  refine F.ok Sc (fun vs H Q E h => ?_) (fun cdv A outer s H vs Q E hr h => ?_)
  · obtain ⟨a, ns, rfl, _⟩ := h
    rfl
  · obtain ⟨a, ns, rfl, hsq, hq⟩ := h
    have cx : CtxS C Γ (cxOf (L2N.CX P w) P w C.K mg base cc.N "law" cc.sc f cdv A outer s H E) cc ⟨fun cls d _ H => False, Cold⟩ := {
      hN := rfl
      sc := rfl
      fn := by rw [hfn] <;> rfl
      nd := Sc.nd
      K := rfl
      cold := fun _ => ⟨rfl, rfl⟩
      hot := fun z => by rw [hcold] at z; cases z
      fl := M.fl
      ix := M.ix
      un := by have := hr.un; show (A.deeper _).units + 64 < cLine; omega
      tk := takesN0
      po := passes_of (K := fun e s' => L2N.CX P w outer H s E e s') rfl
      fns := fun z j hz => by
        obtain ⟨g, gd, qs, G, g1, g2, g3⟩ := M.fns hcold z j hz
        exact ⟨lv, g, gd, qs, fun _ => ⟨G, hr⟩, (fun z => by rw [hcold] at z; cases z), g1, g2, g3⟩
      cons := M.cons
      blt := M.blt
      stk := rfl
      frm := rfl
      rs := fun _ z c m hz => by
        obtain ⟨e1, li, fI, gd, qs, e0, e2, e3, e4, e5, e6, e7, e8, e9⟩ := M.rs hcold z c m hz
        exact ⟨e1, li, fI, gd, qs, e2, e3, e4, e5, e6, hr.mono e0, e7, e8, e9⟩
      hf := fun _ z j hz => by
        obtain ⟨g, gd, qs, G, g1, g2, g3⟩ := M.hf hcold z j hz
        exact ⟨lv, g, gd, qs, G, hr, g1, g2, g3⟩ }
    refine ⟨_, pss_cons (ps_set (i := 1) Sc.nd h1 (.inl l1) (pe_callS (E := fun _ _ _ _ => False) Fs hr lg gs ks bs (fun σ pins H s e s' I z => passN pins σ H s e s' I z)
      (pa_cons (pe_var (i := 0) h0 (.inl l0) (by decide) (by decide)) pa_nil rfl) (by decide) rfl rfl) rfl (.inl (by rfl))) (k_list (fun s => allS fuel _ _ _ cx s) rest), ?_⟩
    refine ⟨.ref a, rfl, a, ns, rfl, hsq, fun p c sd H' hp hc hcp hk e1 e2 s0 s1 => ?_⟩
    have nop : ∀ (i : Nat) d, (Slot.un :: Slot.val .tok :: List.replicate (cc.N.length - 2) Slot.un)[i]? = some (.own d) → False := fun i d e => by
      match i, e with
      | 0, e => cases e
      | 1, e => cases e
      | i + 2, e =>
        have e : (List.replicate (cc.N.length - 2) Slot.un)[i]? = some (.own d) := e
        rw [List.getElem?_replicate] at e
        split at e <;> cases e
    rw [← hir] at hval
    refine ⟨⟨p, c, ns.take 63, none⟩, fun b => if b = p then none else H' b, H', fun b => if b = p then none else H' b, _, _, _, ⟨fun b o hb => ?_, fun _ _ _ h => h, by show H' p ≠ none; rw [e2]; exact (fun z => by cases z), Sub.refl _, fun _ _ h => .inl h, ?_, fun i d e => ?_, fun i d e => (nop i d e).elim, fun i j d e a h => (nop i d h).elim, ⟨?_, ?_, ?_, ?_⟩⟩, hval, ⟨rfl, fun _ _ _ _ _ _ _ _ _ z => False.elim z⟩, ⟨fun _ _ _ _ _ z => False.elim z, fun _ _ _ _ _ z => False.elim z, fun _ _ _ _ _ z => False.elim z, fun o d v F' H'' _ hr hd => ?_⟩⟩
    · have hb : (if b = p then none else H' b) = some o := hb
      split at hb
      · cases hb
      · exact hb
    · show _ = (List.set (L2.start cc.N [V.ref a]) 1 _).length
      rw [List.length_set]
      unfold L2.start
      simp
      omega
    · match i, e with
      | 0, e => cases e
      | 1, e =>
        cases e
        refine ⟨.ref p, ?_, by unfold Rep; rfl⟩
        show (List.set (L2.start cc.N [V.ref a]) 1 (some (.ref p)))[1]? = _
        rw [List.getElem?_set_self (by unfold L2.start; simp; omega)]
      | i + 2, e =>
        have e : (List.replicate (cc.N.length - 2) Slot.un)[i]? = some (.val d) := e
        rw [List.getElem?_replicate] at e
        split at e <;> cases e
    · show (if c = p then none else H' c) = _
      rw [if_neg hcp]
      exact e1
    · show (if p = p then none else H' p) = _
      rw [if_pos rfl]
    · show (ns.take 63).length ≤ 63
      rw [List.length_take]
      omega
    · exact ⟨0, 0, 0, 0, sd, e2, by omega, by omega, by omega, by decide, by omega, by omega, fun h => by omega, by omega, s0, s1⟩
    · obtain ⟨rfl, rfl⟩ := hd
      unfold Res at hr
      have hr : Rep C (⟨p, c, ns.take 63, none⟩ : SG) F' (.bl true) v := hr
      unfold Rep at hr
      subst hr
      exact hq H''

/-! ### tables of the contexts -/
theorem look_nil {κ α : Type} [BEq κ] {p : κ → α → Prop} : ∀ x d, ([] : List (κ × α)).lookup x = some d → p x d := fun _ _ h => by cases h
theorem look_cons {κ α : Type} [BEq κ] [LawfulBEq κ] {p : κ → α → Prop} {y : κ} {e : α} {l : List (κ × α)} (h : p y e) (r : ∀ x d, l.lookup x = some d → p x d) : ∀ x d, ((y, e) :: l).lookup x = some d → p x d := fun x d hx => by
  rw [List.lookup_cons] at hx
  cases q : (x == y) with
  | true =>
    rw [q] at hx
    cases hx
    rw [eq_of_beq q]
    exact h
  | false =>
    rw [q] at hx
    exact r x d hx
theorem mem_nil {α : Type} {p : α → Prop} : ∀ x ∈ ([] : List α), p x := fun _ h => by cases h
theorem mem_cons' {α : Type} {p : α → Prop} {y : α} {l : List α} (h : p y) (r : ∀ x ∈ l, p x) : ∀ x ∈ y :: l, p x := fun x hx => by
  rcases List.mem_cons.mp hx with rfl | hx
  · exact h
  · exact r x hx
theorem con_int {C : CT} {mg : Str → Option Value} {x : Str} {i : Int} (h : ∃ t, mg x = some (.int i t)) : ConV C mg x (.int i) := by
  obtain ⟨t, h⟩ := h
  exact ⟨.int i, _, h, ⟨t, rfl⟩, fun S F => by unfold Rep; rfl⟩
theorem con_str {C : CT} {mg : Str → Option Value} {x s : Str} (h : ∃ t, mg x = some (.str s t)) : ConV C mg x (.str s) := by
  obtain ⟨t, h⟩ := h
  exact ⟨.str s, _, h, ⟨t, rfl⟩, fun S F => by unfold Rep; rfl⟩
section
variable {rs : List (Str × List Str)} {ts : List (Str × CN × List Bool)} {K : PySem.W.Frag}
theorem exI_rc (h : exB rs ts K = true) (i : Nat) {r : Str × List Str} (hr : rs[i]? = some r) : RcOk K r.1 r.2 := exB_rc h (x := r.1) (fs := r.2) (List.mem_of_getElem? hr)
theorem exI_is (h : exB rs ts K = true) (j : Nat) {t : Str} {cn : CN} {bs : List Bool} (ht : ts[j]? = some (t, cn, bs)) (i : Nat) {r : Str × List Str} {b : Bool} (hr : rs[i]? = some r) (hb : bs[i]? = some b) :
    PySem.W.kitOne K (.ref (He.ga K r.1)) (cn.v K) = some b ∧ PySem.W.exmOne K (.ref (He.ga K r.1)) (cn.v K) = some b :=
  exB_is h (List.mem_of_getElem? ht) (r := r) (b := b) (List.mem_of_getElem? (i := i) (by rw [List.getElem?_zip_eq_some]; exact ⟨hr, hb⟩))
theorem isv_own {mg : Str → Option Value} {t : Str} {tab : List (Nat × Bool)} (g : mg t = some (.ref (He.ga K t))) (h : ∀ c b, tab.lookup c = some b → ExcC K ((ctOf K rs).cls c) ∧ PySem.W.kitOne K (.ref ((ctOf K rs).cls c)) ((CN.own t).v K) = some b ∧ PySem.W.exmOne K (.ref ((ctOf K rs).cls c)) ((CN.own t).v K) = some b) :
    IsV (ctOf K rs) mg t tab := ⟨.ref (He.ga K t), .ref (He.ga K t), fun u => Iff.rfl, .inl g, h⟩
theorem isv_blt {mg : Str → Option Value} {t : Str} {n : String} {tab : List (Nat × Bool)} (g : mg t = none) (hb : bootBuiltins t = some (.type n)) (hn : t ≠ ("__name__" : Str)) (h : ∀ c b, tab.lookup c = some b → ExcC K ((ctOf K rs).cls c) ∧ PySem.W.kitOne K (.ref ((ctOf K rs).cls c)) ((CN.blt n).v K) = some b ∧ PySem.W.exmOne K (.ref ((ctOf K rs).cls c)) ((CN.blt n).v K) = some b) :
    IsV (ctOf K rs) mg t tab := ⟨.ty n, .type n, fun u => Iff.rfl, .inr ⟨g, hb, hn⟩, h⟩
end
end
end VL
set_option maxHeartbeats 4000000
/-! VLt: joining. -/
namespace VL
open PySem PySem.Spec PyProof.Rows L2
section
variable {C : CT} {Γ : Nat → VSp} {P : Program} {w : World} {K : PySem.W.Frag} {mg : Str → Option Value} {base : Heap} {x : Str} {k j lv : Nat}
theorem Fct.mono (h : Fct C Γ P w K mg base x k j) (hl : j ≤ lv) : Fct C Γ P w K mg base x k lv := by
  obtain ⟨f, fd, ps, F, r⟩ := h
  exact ⟨f, fd, ps, F.mono hl, r⟩
theorem FctX.mono (h : FctX C Γ P w K mg base x k j) (hl : j ≤ lv) : FctX C Γ P w K mg base x k lv := by
  obtain ⟨f, fd, ps, F, r⟩ := h
  exact ⟨f, fd, ps, ⟨F.len, fun A outer s H args us vs Q E p hr => F.run A outer s H args us vs Q E p (hr.mono hl)⟩, r⟩
theorem RaiseV.mono {c m : Nat} (h : RaiseV C P w mg base x c m j) (hl : j ≤ lv) : RaiseV C P w mg base x c m lv := by
  obtain ⟨e, li, fI, fd, ps, h1, r⟩ := h
  exact ⟨e, li, fI, fd, ps, Nat.le_trans h1 hl, r⟩
theorem rz_nil : ∀ x c m, ([] : List (Str × Nat × Nat)).lookup x = some (c, m) → RaiseV C P w mg base x c m lv := fun _ _ _ h => by cases h
theorem rz_cons {y : Str} {a b : Nat} {l : List (Str × Nat × Nat)} (h : RaiseV C P w mg base y a b lv) (r : ∀ x c m, l.lookup x = some (c, m) → RaiseV C P w mg base x c m lv) : ∀ x c m, ((y, a, b) :: l).lookup x = some (c, m) → RaiseV C P w mg base x c m lv :=
  fun x c m hx => look_cons (p := fun x q => RaiseV C P w mg base x q.1 q.2 lv) (e := (a, b)) (l := l) h (fun x q hq => r x q.1 q.2 hq) x (c, m) hx
theorem fct_take (h : Γ k = vTake) {f : Addr} {fd : FuncData} {ps : List Str} (F : FnOk P w K mg base (L2N.CX P w) 2 f fd ps (lift C Cold vTake)) (g : mg x = some (.ref f)) (kp : PySem.W.keepIn K (.ref f) = true) (b : Binds K fd ps []) : Fct C Γ P w K mg base x k 2 :=
  ⟨f, fd, ps, by rw [h]; exact F, g, kp, b⟩
end
theorem noexc {P : Program} {w : World} {outer : List Env} {H : Hp} {s : Shared} {e : Value} {s' : Shared} (h : L2N.CX P w outer H s (fun _ _ _ => False) e s') : False := by
  obtain ⟨_, _, _, _, _, _, _, _, _, _, _, _, z⟩ := h
  exact z
theorem to_cx0 {P : Program} {w : World} {K : PySem.W.Frag} {mg : Str → Option Value} {base : Heap} {lv : Nat} {f : Addr} {fd : FuncData} {ps : List Str} (F : FnOk P w K mg base (L2N.CX P w) lv f fd ps (spLaw K)) : FnOk P w K mg base CX0 lv f fd ps (spLaw K) :=
  ⟨F.len, fun A outer s H args us vs Q E hr e0 hb r h => codeAny_mono (F.run A outer s H args us vs Q (fun _ _ _ => False) hr e0 hb r h) fun r s' hq => by
    cases r with
    | error e => exact (noexc hq).elim
    | ok fl => cases fl <;> exact hq⟩
/-! ### contracts, values -/
/-- a def that computes -/
def VSp.det {α : Type} (arg : α → List D) (pre : α → Prop) (own : Bool) (f : α → D) : VSp := ⟨α, arg, pre, fun x o d => o = own ∧ d = f x, fun _ _ => False⟩
theorem run_det {α : Type} {arg : α → List D} {pre : α → Prop} {own : Bool} {f : α → D} {ds : List D} {K : Bool → D → Prop} {E : Exc → Prop} (x : α) (h : ds = arg x) (hp : pre x) (hk : K own (f x)) : (VSp.det arg pre own f).run ds K E := by
  unfold VSp.run
  exact ⟨x, h, hp, fun o d ⟨h1, h2⟩ => by subst h1 h2; exact hk, fun e z => z.elim⟩
theorem run_of {s : VSp} {ds : List D} {K : Bool → D → Prop} {E : Exc → Prop} (x : s.α) (h : ds = s.arg x) (hp : s.pre x) (hk : ∀ o d, s.post x o d → K o d) (he : ∀ e, s.exc x e → E e) : s.run ds K E := by
  unfold VSp.run
  exact ⟨x, h, hp, hk, he⟩
/-- a loop, by an invariant of what is left -/
theorem forL_inv {step : D → En → (En → Prop) → (En → Prop) → Prop} {K : En → Prop} (P : List D → En → Prop) (h0 : ∀ ρ, P [] ρ → K ρ) (hs : ∀ d ds ρ nx bk, P (d :: ds) ρ → (∀ ρ', P ds ρ' → nx ρ') → (∀ ρ', K ρ' → bk ρ') → step d ρ nx bk) : ∀ (ds : List D) (ρ : En), P ds ρ → forL step K ds ρ
  | [], ρ, h => h0 ρ h
  | d :: ds, ρ, h => hs d ds ρ _ _ h (fun ρ' h' => forL_inv P h0 hs ds ρ' h') (fun _ h => h)
/-- a comprehension, by an invariant -/
theorem compL_inv {own : List Nat} {step : D → En → EK → (En → Prop) → Prop} {K : List D → En → Prop} (P : List D → List D → En → Prop) (h0 : ∀ acc ρ, P [] acc ρ → K acc ρ)
    (hs : ∀ d ds acc ρ (Ka : EK) (Ks : En → Prop), P (d :: ds) acc ρ → (∀ r ρ1, r.lv ρ1 (acc.length < lim ∧ P ds (acc ++ [r.d]) (wipeV own (r.fz ρ1))) → Ka r ρ1) → (∀ ρ1, P ds acc (wipeV own ρ1) → Ks ρ1) → step d ρ Ka Ks) : ∀ (ds acc : List D) (ρ : En), P ds acc ρ → compL own step ds acc ρ K
  | [], acc, ρ, h => h0 acc ρ h
  | d :: ds, acc, ρ, h => hs d ds acc ρ _ _ h (fun r ρ1 h' => by
      rw [lv_iff] at h' ⊢
      exact ⟨h'.1, h'.2.1, compL_inv P h0 hs ds _ _ h'.2.2⟩) (fun ρ1 h' => compL_inv P h0 hs ds acc _ h')
/-- a comprehension whose turns leave the state as it was -/
theorem compL_fm {own : List Nat} {step : D → En → EK → (En → Prop) → Prop} {K : List D → En → Prop} (c : D → Bool) (f : D → D) {ρ : En} (ρd : D → En) (hw : ∀ d, wipeV own (ρd d) = ρ) : ∀ (ds acc : List D), acc.length + ds.length ≤ lim →
    (∀ d ∈ ds, ∀ (Ka : EK) (Ks : En → Prop), (c d = true → Ka (.val (f d)) (ρd d)) → (c d = false → Ks (ρd d)) → step d ρ Ka Ks) → K (acc ++ (ds.filter c).map f) ρ → compL own step ds acc ρ K
  | [], acc, _, _, hk => by
    rw [List.filter_nil, List.map_nil, List.append_nil] at hk
    exact hk
  | d :: ds, acc, hl, hs, hk => by
    rw [List.length_cons] at hl
    refine hs d List.mem_cons_self _ _ (fun hc => ?_) (fun hc => ?_)
    · refine ⟨by omega, ?_⟩
      show compL own step ds (acc ++ [f d]) (wipeV own (ρd d)) K
      rw [hw]
      refine compL_fm c f ρd hw ds _ (by rw [List.length_append, List.length_singleton]; omega) (fun d' hd' => hs d' (List.mem_cons_of_mem _ hd')) ?_
      rw [List.filter_cons_of_pos hc, List.map_cons] at hk
      rw [List.append_assoc]
      exact hk
    · rw [hw]
      refine compL_fm c f ρd hw ds _ (by omega) (fun d' hd' => hs d' (List.mem_cons_of_mem _ hd')) ?_
      rw [List.filter_cons_of_neg (by rw [hc]; decide)] at hk
      exact hk
theorem filter_map_int {ms : List Int} {c : D → Bool} {g : Int → Bool} (h : ∀ m, c (.int m) = g m) : ((ms.map D.int).filter c).map id = (ms.filter g).map .int := by
  rw [List.map_id, List.filter_map]
  congr 1
  exact List.filter_congr fun m _ => h m
/-- [m for m in ints if g m] -/
theorem compL_ints {own : List Nat} {step : D → En → EK → (En → Prop) → Prop} {K : List D → En → Prop} (g : Int → Bool) {ρ : En} (ρd : Int → En) (hw : ∀ m, wipeV own (ρd m) = ρ) : ∀ (ms : List Int) (acc : List D), acc.length + ms.length ≤ lim →
    (∀ m ∈ ms, ∀ (Ka : EK) (Ks : En → Prop), (g m = true → Ka (.val (.int m)) (ρd m)) → (g m = false → Ks (ρd m)) → step (.int m) ρ Ka Ks) → K (acc ++ (ms.filter g).map .int) ρ → compL own step (ms.map .int) acc ρ K
  | [], acc, _, _, hk => by
    rw [List.filter_nil, List.map_nil, List.append_nil] at hk
    exact hk
  | m :: ms, acc, hl, hs, hk => by
    rw [List.length_cons] at hl
    refine hs m List.mem_cons_self _ _ (fun hc => ?_) (fun hc => ?_)
    · refine ⟨by omega, ?_⟩
      show compL own step (ms.map .int) (acc ++ [.int m]) (wipeV own (ρd m)) K
      rw [hw]
      refine compL_ints g ρd hw ms _ (by rw [List.length_append, List.length_singleton]; omega) (fun d' hd' => hs d' (List.mem_cons_of_mem _ hd')) ?_
      rw [List.filter_cons_of_pos hc, List.map_cons] at hk
      rw [List.append_assoc]
      exact hk
    · show compL own step (ms.map .int) acc (wipeV own (ρd m)) K
      rw [hw]
      refine compL_ints g ρd hw ms _ (by omega) (fun d' hd' => hs d' (List.mem_cons_of_mem _ hd')) ?_
      rw [List.filter_cons_of_neg (by rw [hc]; decide)] at hk
      exact hk
/-- [f m for m in ints] -/
theorem compL_map {own : List Nat} {step : D → En → EK → (En → Prop) → Prop} {K : List D → En → Prop} (f : Int → D) {ρ : En} (ρd : Int → En) (hw : ∀ m, wipeV own (ρd m) = ρ) : ∀ (ms : List Int) (acc : List D), acc.length + ms.length ≤ lim →
    (∀ m ∈ ms, ∀ (Ka : EK) (Ks : En → Prop), (Ka (.val (f m)) (ρd m)) → step (.int m) ρ Ka Ks) → K (acc ++ ms.map f) ρ → compL own step (ms.map .int) acc ρ K
  | [], acc, _, _, hk => by
    rw [List.map_nil, List.append_nil] at hk
    exact hk
  | m :: ms, acc, hl, hs, hk => by
    rw [List.length_cons] at hl
    refine hs m List.mem_cons_self _ _ ?_
    refine ⟨by omega, ?_⟩
    show compL own step (ms.map .int) (acc ++ [f m]) (wipeV own (ρd m)) K
    rw [hw]
    refine compL_map f ρd hw ms _ (by rw [List.length_append, List.length_singleton]; omega) (fun d' hd' => hs d' (List.mem_cons_of_mem _ hd')) ?_
    rw [List.append_assoc]
    exact hk
end VL
set_option maxHeartbeats 4000000
/-! VLu: values of the laws' common helpers. -/
namespace VL
open PySem PySem.Spec PyProof.Rows L2
/-- what a def's body must do -/
abbrev Val (Γ : Nat → VSp) (s : VSp) (ir : VSs) (N : Nat) : Prop := ∀ x : s.α, s.pre x → wSs Γ ir ((s.arg x).map .val ++ List.replicate (N - (s.arg x).length) .un) { nx := fun _ => s.post x false .non, rt := s.post x } (fun e _ => s.exc x e)
section
variable {Γ : Nat → VSp} {n m : Nat}
theorem log_small {k : Nat} (h : k ≤ 2 ^ 30) : (k : Int).natAbs.log2 < 9000 := by
  rw [Int.natAbs_natCast]
  by_cases hk : k = 0
  · subst hk; decide
  · have := (Nat.log2_lt hk).mpr (show k < 2 ^ 31 by omega)
    omega
theorem take_run (hT : Γ n = vTake) {k : Int} {K : Bool → D → Prop} {E : Exc → Prop} (hk : k.natAbs.log2 < 9000) (h : ∀ r : Int, 0 ≤ r → (r < k ∨ r = 0) → K false (.int r)) : (Γ n).run [.tok, .int k] K E := by
  rw [hT]
  exact run_of (s := vTake) k rfl hk (fun o d hp => by obtain ⟨rfl, r, rfl, h0, h1⟩ := hp; exact h r h0 h1) (fun e z => z.elim)
/-! ### _law_pick -/
def spPick : VSp := ⟨List D, fun ds => [.tok, .lst ds], fun ds => ds ≠ [] ∧ ds.length ≤ lim, fun ds o d => o = false ∧ d ∈ ds, fun _ _ => False⟩
def irPick (n : Nat) : VSs := (.cons (.ret (.ix (.var 1) (.call n (.cons (.var 0) (.cons (.blt .len (.cons (.var 1) .nil)) .nil)))))
  .nil)
theorem atI_nat {α : Type} {ds : List α} {r : Int} (h0 : 0 ≤ r) (h1 : r < ds.length) : ∃ d, L2.atI ds r = some d ∧ ds[r.toNat]? = some d := by
  have hl : r.toNat < ds.length := by omega
  refine ⟨ds[r.toNat], ?_, List.getElem?_eq_getElem hl⟩
  unfold L2.atI L2.ixN
  rw [if_pos h0, if_pos h1]
  exact List.getElem?_eq_getElem hl
theorem lim_log {k : Nat} (h : k ≤ lim) : (k : Int).natAbs.log2 < 9000 := log_small (by have : lim = 1000000 := rfl; omega)
theorem val_pick (hT : Γ n = vTake) : Val Γ spPick (irPick n) 2 := by
  show ∀ ds : List D, ds ≠ [] ∧ ds.length ≤ lim → _
  rintro ds ⟨hne, hl⟩
  show wSs Γ (irPick n) [.val .tok, .val (.lst ds)] _ _
  conv => whnf
  refine take_run hT (lim_log hl) fun r h0 h1 => ?_
  have hr : r < ds.length := by
    have : 0 < ds.length := List.length_pos_iff.mpr hne
    omega
  obtain ⟨d, h2, h3⟩ := atI_nat h0 hr
  conv => whnf
  exact ⟨d, h2, rfl, List.mem_of_getElem? h3⟩
theorem pick_run (hP : Γ m = spPick) {ds : List D} {K : Bool → D → Prop} {E : Exc → Prop} (hne : ds ≠ []) (hl : ds.length ≤ lim) (h : ∀ d ∈ ds, K false d) : (Γ m).run [.tok, .lst ds] K E := by
  rw [hP]
  exact run_of (s := spPick) ds rfl ⟨hne, hl⟩ (fun o d hp => by obtain ⟨rfl, h1⟩ := hp; exact h d h1) (fun e z => z.elim)
/-! ### _law_natural -/
def spNat : VSp := ⟨Int, fun t => [.tok, .int t], fun t => 0 ≤ t ∧ t < 2 ^ 8000, fun t o d => o = false ∧ ∃ r, d = .int r ∧ 0 ≤ r ∧ r ≤ t, fun _ _ => False⟩
def irNat (n : Nat) : VSs := (.cons (.asg (.nm 2) (.call n (.cons (.var 0) (.cons (.cst (.int 12)) .nil))))
  (.cons (.ifS (.tv (.cmp .Lt (.var 2) (.cst (.int 4)))) (.cons (.ret (.ix (.lst (.cons (.cst (.int 0)) (.cons (.blt .min (.cons (.cst (.int 1)) (.cons (.var 1) .nil))) (.cons (.blt .max (.cons (.cst (.int 0)) (.cons (.bin .Sub (.var 1) (.cst (.int 1))) .nil))) (.cons (.var 1) .nil))))) (.var 2)))
  .nil) .nil)
  (.cons (.ret (.call n (.cons (.var 0) (.cons (.bin .Add (.var 1) (.cst (.int 1))) .nil))))
  .nil)))
theorem log_of {t : Int} {a : Nat} (h0 : 0 ≤ t) (h : t < 2 ^ a) (ha : a ≤ 9000) (h1 : 0 < a) : t.natAbs.log2 < 9000 := by
  by_cases hk : t.natAbs = 0
  · rw [hk]; decide
  · have e : t.natAbs < 2 ^ a := by
      have : ((t.natAbs : Nat) : Int) < ((2 ^ a : Nat) : Int) := by
        rw [Int.natAbs_of_nonneg h0]
        simpa using h
      exact_mod_cast this
    have := (Nat.log2_lt hk).mpr e
    omega
theorem val_nat (hT : Γ n = vTake) : Val Γ spNat (irNat n) 3 := by
  show ∀ t : Int, 0 ≤ t ∧ t < 2 ^ 8000 → _
  rintro t ⟨h0, ht⟩
  show wSs Γ (irNat n) [.val .tok, .val (.int t), .un] _ _
  conv => whnf
  refine take_run hT (by decide) fun r hr0 hr1 => ?_
  conv => whnf
  refine ⟨fun h => ?_, fun h => ?_⟩
  · have h4 := of_decide_eq_true h
    have h5 : r.toNat = 0 ∨ r.toNat = 1 ∨ r.toNat = 2 ∨ r.toNat = 3 := by omega
    have er : r = (r.toNat : Int) := by omega
    conv => whnf
    rcases h5 with e | e | e | e <;> (rw [e] at er; subst er)
    · exact ⟨_, rfl, rfl, _, rfl, by omega, h0⟩
    · refine ⟨_, rfl, rfl, _, rfl, ?_⟩
      split <;> omega
    · refine ⟨_, rfl, rfl, _, rfl, ?_⟩
      split <;> omega
    · exact ⟨_, rfl, rfl, _, rfl, h0, Int.le_refl _⟩
  · conv => whnf
    refine take_run hT (log_of (a := 8001) (by omega) (by have : (2 : Int) ^ 8001 = 2 ^ 8000 * 2 := Int.pow_succ 2 8000; have : (0 : Int) < 2 ^ 8000 := Int.pow_pos (by decide); generalize (2 : Int) ^ 8000 = X at *; omega) (by decide) (by decide)) fun q hq0 hq1 => ?_
    exact ⟨rfl, q, rfl, hq0, by omega⟩

/-! ### _law_shuffle -/
def spShuf : VSp := ⟨List D, fun ds => [.tok, .lst ds], fun ds => ds.length ≤ lim, fun ds o d => o = true ∧ ∃ es, d = .lst es ∧ es.Perm ds, fun _ _ => False⟩
def irShuf (n : Nat) : VSs := (.cons (.asg (.nm 2) (.blt .list (.cons (.var 1) .nil)))
  (.cons (.asg (.nm 3) (.lst .nil))
  (.cons (.forS (.nm 4) (.rng (.cons (.blt .len (.cons (.var 1) .nil)) .nil)) (.cons (.ex (.met .append (.var 3) (.cons (.met .pop (.var 2) (.cons (.call n (.cons (.var 0) (.cons (.blt .len (.cons (.var 2) .nil)) .nil))) .nil)) .nil)))
  .nil))
  (.cons (.ret (.var 3))
  .nil))))
theorem rngD_len (lo hi : Int) : (rngD lo hi).length = (hi - lo).toNat := by
  unfold rngD
  rw [List.length_map, List.length_range]
theorem perm_erase {α : Type} : ∀ (ls : List α) (i : Nat) (h : i < ls.length), (ls[i] :: ls.eraseIdx i).Perm ls
  | [], _, h => by simp at h
  | a :: as, 0, _ => List.Perm.refl _
  | a :: as, i + 1, h => by
    have h' : i < as.length := by simpa using h
    show (as[i] :: a :: as.eraseIdx i).Perm (a :: as)
    exact (List.Perm.swap _ _ _).trans (List.Perm.cons a (perm_erase as i h'))
theorem val_shuf (hT : Γ n = vTake) : Val Γ spShuf (irShuf n) 5 := by
  show ∀ ds : List D, ds.length ≤ lim → _
  rintro ds hl
  have el : lim = 1000000 := rfl
  show wSs Γ (irShuf n) [.val .tok, .val (.lst ds), .un, .un, .un] _ _
  conv => whnf
  refine ⟨by omega, ?_⟩
  conv => whnf
  refine forL_inv (fun rs ρ => ∃ (ls fs : List D) (s : Slot), ρ = [.val .tok, .val (.lst ds), .own (.lst ls), .own (.lst fs), s] ∧ ls.length = rs.length ∧ (fs ++ ls).Perm ds) (fun ρ h => ?_) (fun d rs ρ nx bk h hn hb => ?_) _ _ ⟨ds, [], .un, rfl, ?_, List.Perm.refl _⟩
  · obtain ⟨ls, fs, s, rfl, h1, h2⟩ := h
    have : ls = [] := List.length_eq_zero_iff.mp h1
    subst this
    rw [List.append_nil] at h2
    exact ⟨rfl, fs, rfl, h2⟩
  · obtain ⟨ls, fs, s, rfl, h1, h2⟩ := h
    have hlen : fs.length + ls.length = ds.length := by rw [← List.length_append]; exact h2.length_eq
    rw [List.length_cons] at h1
    conv => whnf
    refine ⟨.inl rfl, ?_⟩
    conv => whnf
    refine take_run hT (lim_log (by omega)) fun r h0 hr => ?_
    have hrl : r < ls.length := by omega
    obtain ⟨z, _, hz⟩ := atI_nat h0 hrl
    conv => whnf
    refine ⟨.inl rfl, ?_⟩
    conv => whnf
    refine ⟨⟨rfl, h0, by omega⟩, ?_⟩
    refine ⟨z, hz, ?_⟩
    conv => whnf
    refine ⟨.inl rfl, ?_⟩
    conv => whnf
    refine ⟨⟨rfl, by omega⟩, ?_⟩
    refine hn _ ⟨ls.eraseIdx r.toNat, fs ++ [z], .val d, rfl, ?_, ?_⟩
    · rw [List.length_eraseIdx_of_lt (by omega)]
      omega
    · refine List.Perm.trans ?_ h2
      rw [List.append_assoc]
      refine List.Perm.append_left fs ?_
      have hlt : r.toNat < ls.length := by omega
      have ez : z = ls[r.toNat] := by
        rw [List.getElem?_eq_getElem hlt] at hz
        exact (Option.some.inj hz).symm
      rw [ez]
      exact perm_erase ls _ hlt
  · rw [rngD_len]
    omega
theorem shuf_run (hP : Γ m = spShuf) {ds : List D} {K : Bool → D → Prop} {E : Exc → Prop} (hl : ds.length ≤ lim) (h : ∀ es : List D, es.Perm ds → K true (.lst es)) : (Γ m).run [.tok, .lst ds] K E := by
  rw [hP]
  exact run_of (s := spShuf) ds rfl hl (fun o d hp => by obtain ⟨rfl, es, rfl, h1⟩ := hp; exact h es h1) (fun e z => z.elim)
theorem nat_run (hP : Γ m = spNat) {t : Int} {K : Bool → D → Prop} {E : Exc → Prop} (h0 : 0 ≤ t) (ht : t < 2 ^ 8000) (h : ∀ r : Int, 0 ≤ r → r ≤ t → K false (.int r)) : (Γ m).run [.tok, .int t] K E := by
  rw [hP]
  exact run_of (s := spNat) t rfl ⟨h0, ht⟩ (fun o d hp => by obtain ⟨rfl, r, rfl, h1, h2⟩ := hp; exact h r h1 h2) (fun e z => z.elim)
/-! ### _law_unique -/
def uniq : List D → List D → List D
  | [], acc => acc
  | d :: ds, acc => uniq ds (if inF d acc then acc else acc ++ [d])
theorem uniq_cons {d : D} {ds acc : List D} : uniq (d :: ds) acc = uniq ds (if inF d acc = true then acc else acc ++ [d]) := rfl
def spUniq : VSp := .det (α := List D) (fun x => [.lst x]) (fun x => x.all D.flat = true ∧ x.length ≤ lim) true fun x => .lst (uniq x [])
def irUniq : VSs := (.cons (.asg (.nm 1) (.lst .nil))
  (.cons (.forS (.nm 2) (.it (.blt .list (.cons (.var 0) .nil))) (.cons (.ifS (.tv (.cmp .NotIn (.var 2) (.var 1))) (.cons (.ex (.met .append (.var 1) (.cons (.var 2) .nil)))
  .nil) .nil)
  .nil))
  (.cons (.ret (.var 1))
  .nil)))
theorem val_uniq : Val Γ spUniq irUniq 3 := by
  show ∀ ds : List D, ds.all D.flat = true ∧ ds.length ≤ lim → _
  rintro ds ⟨hf, hl⟩
  have el : lim = 1000000 := rfl
  show wSs Γ irUniq [.val (.lst ds), .un, .un] _ _
  conv => whnf
  refine forL_inv (fun rs ρ => ∃ (acc : List D) (s : Slot), ρ = [.val (.lst ds), .own (.lst acc), s] ∧ uniq ds [] = uniq rs acc ∧ acc.all D.flat = true ∧ rs.all D.flat = true ∧ acc.length + rs.length ≤ lim) (fun ρ h => ?_) (fun d rs ρ nx bk h hn hb => ?_) _ _ ⟨[], .un, rfl, rfl, rfl, hf, by show 0 + _ ≤ _; omega⟩
  · obtain ⟨acc, s, rfl, h1, _⟩ := h
    exact ⟨rfl, by rw [show D.lst acc = .lst (uniq ds []) by rw [h1] <;> rfl]⟩
  · obtain ⟨acc, s, rfl, h1, h2, h3, h4⟩ := h
    rw [List.all_cons, Bool.and_eq_true] at h3
    rw [List.length_cons] at h4
    have key : wSs Γ (.cons (.ifS (.tv (.cmp .NotIn (.var 2) (.var 1))) (.cons (.ex (.met .append (.var 1) (.cons (.var 2) .nil))) .nil) .nil) .nil) [.val (.lst ds), .own (.lst acc), .val d] { nx := nx, rt := spUniq.post ds, bk := bk, ct := nx } fun e _ => spUniq.exc ds e := by
      cases hc : inF d acc with
      | false =>
        have hn' := hn [.val (.lst ds), .own (.lst (acc ++ [d])), .val d] ⟨_, _, rfl, by rw [h1, uniq_cons, hc]; rfl, by rw [List.all_append, h2, List.all_cons, h3.1] <;> rfl, h3.2, by rw [List.length_append, List.length_singleton]; omega⟩
        cases d <;> first | (cases h3.1; done) | skip
        all_goals
          conv => whnf
          refine ⟨rfl, h2, fun h => ?_, fun h => ?_⟩
          · conv => whnf
            refine ⟨.inl rfl, ?_⟩
            conv => whnf
            exact ⟨⟨rfl, by omega⟩, hn'⟩
          · first | (rw [show ∀ x : D, (R.val x).d = x from fun _ => rfl, hc] at h) | (rw [hc] at h)
            cases h
      | true =>
        have hn' := hn [.val (.lst ds), .own (.lst acc), .val d] ⟨acc, _, rfl, by rw [h1, uniq_cons, hc]; rfl, h2, h3.2, by omega⟩
        cases d <;> first | (cases h3.1; done) | skip
        all_goals
          conv => whnf
          refine ⟨rfl, h2, fun h => ?_, fun h => hn'⟩
          first | (rw [show ∀ x : D, (R.val x).d = x from fun _ => rfl, hc] at h) | (rw [hc] at h)
          cases h
    exact key
theorem uniq_run (hP : Γ m = spUniq) {ds : List D} {K : Bool → D → Prop} {E : Exc → Prop} (hf : ds.all D.flat = true) (hl : ds.length ≤ lim) (h : K true (.lst (uniq ds []))) : (Γ m).run [.lst ds] K E := by
  rw [hP]
  exact run_det (α := List D) ds rfl ⟨hf, hl⟩ h
/-! ### _law_kind, _law_same -/
def kindS : D → Option Str
  | .non => some "none"
  | .bl _ => some "bool"
  | .int _ => some "int"
  | .str _ => some "text"
  | .lst _ => some "list"
  | .tup _ => some "tuple"
  | _ => none
def spKind : VSp := ⟨D, fun d => [d], fun d => (kindS d).isSome = true, fun d o e => o = false ∧ ∃ s, kindS d = some s ∧ e = .str s, fun _ _ => False⟩
def irKind : VSs := (.cons (.ifS (.tv (.cmp .Is (.var 0) (.cst .non))) (.cons (.ret (.cst (.str "none")))
  .nil) .nil)
  (.cons (.ifS (.tv (.isin (.var 0) (.bi "bool"))) (.cons (.ret (.cst (.str "bool")))
  .nil) .nil)
  (.cons (.ifS (.tv (.isin (.var 0) (.bi "int"))) (.cons (.ret (.cst (.str "int")))
  .nil) .nil)
  (.cons (.ifS (.tv (.isin (.var 0) (.bi "str"))) (.cons (.ret (.cst (.str "text")))
  .nil) .nil)
  (.cons (.ifS (.tv (.isin (.var 0) (.bi "list"))) (.cons (.ret (.cst (.str "list")))
  .nil) .nil)
  (.cons (.ifS (.tv (.isin (.var 0) (.bi "tuple"))) (.cons (.ret (.cst (.str "tuple")))
  .nil) .nil)
  (.cons (.ifS (.tv (.isin (.var 0) (.bi "dict"))) (.cons (.ret (.cst (.str "dict")))
  .nil) .nil)
  (.cons (.ret (.cst (.str "other")))
  .nil))))))))
theorem val_kind : Val Γ spKind irKind 1 := by
  show ∀ d : D, (kindS d).isSome = true → _
  intro d hd
  show wSs Γ irKind [.val d] _ _
  cases d <;> first | (cases hd; done) | skip
  case non =>
    conv => whnf
    exact ⟨fun _ => ⟨rfl, _, rfl, rfl⟩, fun h => by cases h⟩
  all_goals
    repeat
      conv => whnf
      first
      | exact ⟨rfl, _, rfl, rfl⟩
      | refine ⟨fun h => ?_, fun h => ?_⟩
      all_goals first | (exact ⟨rfl, _, rfl, rfl⟩) | (exfalso; revert h; decide) | skip
theorem kind_run (hP : Γ m = spKind) {d : D} {s : Str} {K : Bool → D → Prop} {E : Exc → Prop} (hd : kindS d = some s) (h : K false (.str s)) : (Γ m).run [d] K E := by
  rw [hP]
  exact run_of (s := spKind) d rfl (by show (kindS d).isSome = true; rw [hd] <;> rfl) (fun o e hp => by obtain ⟨rfl, s', h1, rfl⟩ := hp; rw [hd] at h1; cases h1; exact h) (fun e z => z.elim)
mutual
/-- plain data: how many nodes -/
def sz : D → Nat
  | .lst ds => szs ds + 1
  | .tup ds => szs ds + 1
  | _ => 1
def szs : List D → Nat
  | [] => 0
  | d :: ds => sz d + szs ds
end
mutual
def plainD : D → Bool
  | .non => true
  | .bl _ => true
  | .int _ => true
  | .str s => decide (s.length ≤ lim)
  | .lst ds => plainDs ds
  | .tup ds => plainDs ds
  | _ => false
def plainDs : List D → Bool
  | [] => true
  | d :: ds => plainD d && plainDs ds
end
theorem szs_app : ∀ (a b : List D), szs (a ++ b) = szs a + szs b
  | [], b => by rw [List.nil_append, szs, Nat.zero_add]
  | d :: a, b => by rw [List.cons_append, szs, szs, szs_app a b]; omega
theorem plainDs_app : ∀ (a b : List D), plainDs (a ++ b) = (plainDs a && plainDs b)
  | [], b => by rw [List.nil_append, plainDs, Bool.true_and]
  | d :: a, b => by rw [List.cons_append, plainDs, plainDs, plainDs_app a b, Bool.and_assoc]
theorem sz_pos : ∀ d : D, 1 ≤ sz d := fun d => by cases d <;> (unfold sz; omega)
theorem szs_len : ∀ ds : List D, ds.length ≤ szs ds
  | [] => Nat.zero_le _
  | d :: ds => by
    rw [List.length_cons, szs]
    have := szs_len ds
    have := sz_pos d
    omega
theorem plain_mem : ∀ {ds : List D} {d : D}, plainDs ds = true → d ∈ ds → plainD d = true
  | e :: ds, d, h, hm => by
    rw [plainDs, Bool.and_eq_true] at h
    rcases List.mem_cons.mp hm with rfl | hm
    · exact h.1
    · exact plain_mem h.2 hm
theorem plain_kind {d : D} (h : plainD d = true) : ∃ s, kindS d = some s := by
  cases d <;> first | exact ⟨_, rfl⟩ | (unfold plainD at h; cases h)
def spSame : VSp := .det (α := D) (fun x => [x, x]) (fun x => plainD x = true ∧ sz x ≤ 100000) false fun _ => .bl true
def irSame (n : Nat) : VSs := (.cons (.asg (.nm 2) (.lst (.cons (.tup (.cons (.var 0) (.cons (.var 1) .nil))) .nil)))
  (.cons (.forS (.nm 3) (.rng (.cons (.cst (.int 100001)) .nil)) (.cons (.ifS (.tv (.cmp .Eq (.blt .len (.cons (.var 2) .nil)) (.cst (.int 0)))) (.cons (.ret (.cst (.bl true)))
  .nil) .nil)
  (.cons (.asg (.tp (.cons (.nm 4) (.cons (.nm 5) .nil))) (.met .pop (.var 2) .nil))
  (.cons (.asg (.nm 6) (.call n (.cons (.var 5) .nil)))
  (.cons (.ifS (.tor (.tv (.cmp .Eq (.var 6) (.cst (.str "other")))) (.tv (.cmp .NotEq (.call n (.cons (.var 4) .nil)) (.var 6)))) (.cons (.ret (.cst (.bl false)))
  .nil) .nil)
  (.cons (.ifS (.tor (.tv (.cmp .Eq (.var 6) (.cst (.str "list")))) (.tv (.cmp .Eq (.var 6) (.cst (.str "tuple"))))) (.cons (.ifS (.tv (.cmp .NotEq (.blt .len (.cons (.var 4) .nil)) (.blt .len (.cons (.var 5) .nil)))) (.cons (.ret (.cst (.bl false)))
  .nil) .nil)
  (.cons (.forS (.nm 7) (.rng (.cons (.blt .len (.cons (.var 5) .nil)) .nil)) (.cons (.ex (.met .append (.var 2) (.cons (.tup (.cons (.ix (.var 4) (.var 7)) (.cons (.ix (.var 5) (.var 7)) .nil))) .nil)))
  .nil))
  .nil)) (.cons (.ifS (.tv (.cmp .Eq (.var 6) (.cst (.str "dict")))) (.cons (.ifS (.tv (.cmp .NotEq (.blt .len (.cons (.var 4) .nil)) (.blt .len (.cons (.var 5) .nil)))) (.cons (.ret (.cst (.bl false)))
  .nil) .nil)
  (.cons (.forS (.nm 8) (.it (.blt .list (.cons (.var 4) .nil))) (.cons (.ifS (.tor (.tv (.cmp .Eq (.call n (.cons (.var 8) .nil)) (.cst (.str "bool")))) (.tv (.cmp .NotIn (.var 8) (.var 5)))) (.cons (.ret (.cst (.bl false)))
  .nil) .nil)
  (.cons (.ex (.met .append (.var 2) (.cons (.tup (.cons (.ix (.var 4) (.var 8)) (.cons (.ix (.var 5) (.var 8)) .nil))) .nil)))
  .nil)))
  .nil)) (.cons (.ifS (.tv (.cmp .NotEq (.var 4) (.var 5))) (.cons (.ret (.cst (.bl false)))
  .nil) .nil)
  .nil))
  .nil))
  .nil))))))
  (.cons (.ret (.cst (.bl false)))
  .nil)))
theorem rngD_cons {j n : Nat} (h : j < n) : rngD (j : Nat) (n : Nat) = .int (j : Nat) :: rngD ((j + 1 : Nat) : Int) (n : Nat) := by
  unfold rngD
  have e1 : ((n : Int) - (j : Nat)).toNat = (n - (j + 1)) + 1 := by omega
  have e2 : ((n : Int) - ((j + 1 : Nat) : Int)).toNat = n - (j + 1) := by omega
  rw [e1, e2, List.range_succ_eq_map, List.map_cons, List.map_map]
  have e3 : D.int ((j : Int) + ((0 : Nat) : Int)) = .int (j : Nat) := by rw [Int.natCast_zero, Int.add_zero]
  have e4 : (List.range (n - (j + 1))).map ((fun (k : Nat) => D.int ((j : Int) + (k : Nat))) ∘ Nat.succ) = (List.range (n - (j + 1))).map fun (k : Nat) => D.int (((j + 1 : Nat) : Int) + (k : Nat)) := by
    refine List.map_congr_left fun i _ => ?_
    show D.int ((j : Int) + ((i + 1 : Nat) : Int)) = .int (((j + 1 : Nat) : Int) + (i : Nat))
    rw [show (j : Int) + ((i + 1 : Nat) : Int) = ((j + 1 : Nat) : Int) + (i : Nat) by omega]
  rw [e4]
  exact congrArg (fun z => z :: _) e3
theorem rngD_nil {n : Nat} : rngD (n : Nat) (n : Nat) = [] := by
  unfold rngD
  rw [Int.sub_self] <;> rfl
def prs (ys : List D) : List D := ys.map fun y => .tup [y, y]
theorem prs_len (ys : List D) : (prs ys).length = ys.length := by unfold prs; rw [List.length_map]
/-- the children are laid on the heap of pairs -/
theorem val_same (hK : Γ n = spKind) : Val Γ spSame (irSame n) 9 := by
  show ∀ x : D, plainD x = true ∧ sz x ≤ 100000 → _
  rintro x ⟨hp, hz⟩
  have el : lim = 1000000 := rfl
  show wSs Γ (irSame n) [.val x, .val x, .un, .un, .un, .un, .un, .un, .un] _ _
  conv => whnf
  refine ⟨by decide, ?_⟩
  have hrl : (rngD 0 100001).length = 100001 := by rw [rngD_len] <;> decide
  generalize rngD 0 100001 = rs0 at hrl
  conv => whnf
  refine forL_inv (fun rs ρ => ∃ (ys : List D) (s3 s4 s5 s6 s7 s8 : Slot), ρ = [.val x, .val x, .own (.lst (prs ys)), s3, s4, s5, s6, s7, s8] ∧ plainDs ys = true ∧ szs ys + 1 ≤ rs.length ∧ rs.length ≤ 100001) (fun ρ h => ?_) (fun d rs ρ nx bk h hn hb => ?_) _ _ ⟨[x], .un, .un, .un, .un, .un, .un, rfl, by unfold plainDs plainDs; rw [hp] <;> rfl, ?_, by omega⟩
  · obtain ⟨ys, s3, s4, s5, s6, s7, s8, rfl, h1, h2⟩ := h
    rw [List.length_nil] at h2
    have := h2.1
    omega
  · obtain ⟨ys, s3, s4, s5, s6, s7, s8, rfl, h1, h2⟩ := h
    rw [List.length_cons] at h2
    conv => whnf
    refine ⟨.inl rfl, ?_⟩
    conv => whnf
    refine ⟨fun h => ⟨rfl, rfl⟩, fun h => ?_⟩
    have hne : ys ≠ [] := fun z => by subst z; exact absurd h (by decide)
    obtain ⟨zs, y, rfl⟩ : ∃ zs y, ys = zs ++ [y] := ⟨ys.dropLast, ys.getLast hne, (List.dropLast_concat_getLast hne).symm⟩
    obtain ⟨h2, h3⟩ := h2
    rw [szs_app] at h2
    rw [plainDs_app, Bool.and_eq_true] at h1
    have hy : plainD y = true := by have := h1.2; rw [plainDs, Bool.and_eq_true] at this; exact this.1
    have hz2 : szs [y] = sz y := by rw [szs, szs, Nat.add_zero]
    have epr : prs (zs ++ [y]) = prs zs ++ [.tup [y, y]] := by unfold prs; rw [List.map_append] <;> rfl
    rw [epr]
    conv => whnf
    refine ⟨.inl rfl, ?_⟩
    conv => whnf
    refine ⟨rfl, .tup [y, y], ?_, ?_⟩
    · rw [List.length_append, List.length_singleton, Nat.add_sub_cancel, List.getElem?_append_right (Nat.le_refl _), Nat.sub_self] <;> rfl
    rw [List.dropLast_concat]
    conv => whnf
    have again : ∀ (cs : List D) (s3 s4 s5 s6 s7 s8 : Slot), plainDs cs = true → szs cs + 1 ≤ sz y → nx [.val x, .val x, .own (.lst (prs zs ++ prs cs)), s3, s4, s5, s6, s7, s8] := fun cs s3 s4 s5 s6 s7 s8 hc1 hc2 =>
      hn _ ⟨zs ++ cs, s3, s4, s5, s6, s7, s8, by unfold prs; rw [List.map_append], by rw [plainDs_app, h1.1, hc1] <;> rfl, by rw [szs_app]; omega, by omega⟩
    have leaf : ∀ (s3 s4 s5 s6 s7 s8 : Slot), nx [.val x, .val x, .own (.lst (prs zs)), s3, s4, s5, s6, s7, s8] := fun s3 s4 s5 s6 s7 s8 => by
      have := again [] s3 s4 s5 s6 s7 s8 rfl (by have := sz_pos y; rw [szs]; omega)
      rw [show prs zs ++ prs [] = prs zs from List.append_nil _] at this
      exact this
    have hlen : szs zs + sz y ≤ 100000 := by omega
    cases y <;> first | (unfold plainD at hy; cases hy; done) | skip
    case non =>
      refine kind_run hK rfl ?_
      conv => whnf
      refine ⟨fun h => absurd h (by decide), fun _ => ?_⟩
      conv => whnf
      refine kind_run hK rfl ?_
      conv => whnf
      refine ⟨fun h => absurd h (by decide), fun _ => ?_⟩
      conv => whnf
      refine ⟨fun h => absurd h (by decide), fun _ => ?_⟩
      conv => whnf
      refine ⟨fun h => absurd h (by decide), fun _ => ?_⟩
      conv => whnf
      refine ⟨fun h => absurd h (by decide), fun _ => ?_⟩
      conv => whnf
      refine ⟨fun h => absurd h (by decide), fun _ => ?_⟩
      exact leaf _ _ _ _ _ _
    case bl b =>
      refine kind_run hK rfl ?_
      conv => whnf
      refine ⟨fun h => absurd h (by decide), fun _ => ?_⟩
      conv => whnf
      refine kind_run hK rfl ?_
      conv => whnf
      refine ⟨fun h => absurd h (by decide), fun _ => ?_⟩
      conv => whnf
      refine ⟨fun h => absurd h (by decide), fun _ => ?_⟩
      conv => whnf
      refine ⟨fun h => absurd h (by decide), fun _ => ?_⟩
      conv => whnf
      refine ⟨fun h => absurd h (by decide), fun _ => ?_⟩
      conv => whnf
      refine ⟨fun h => absurd h (by simp), fun _ => ?_⟩
      exact leaf _ _ _ _ _ _
    case int i =>
      refine kind_run hK rfl ?_
      conv => whnf
      refine ⟨fun h => absurd h (by decide), fun _ => ?_⟩
      conv => whnf
      refine kind_run hK rfl ?_
      conv => whnf
      refine ⟨fun h => absurd h (by decide), fun _ => ?_⟩
      conv => whnf
      refine ⟨fun h => absurd h (by decide), fun _ => ?_⟩
      conv => whnf
      refine ⟨fun h => absurd h (by decide), fun _ => ?_⟩
      conv => whnf
      refine ⟨fun h => absurd h (by decide), fun _ => ?_⟩
      conv => whnf
      refine ⟨fun h => absurd h (by simp), fun _ => ?_⟩
      exact leaf _ _ _ _ _ _
    case str z =>
      refine kind_run hK rfl ?_
      conv => whnf
      refine ⟨fun h => absurd h (by decide), fun _ => ?_⟩
      conv => whnf
      refine kind_run hK rfl ?_
      conv => whnf
      refine ⟨fun h => absurd h (by decide), fun _ => ?_⟩
      conv => whnf
      refine ⟨fun h => absurd h (by decide), fun _ => ?_⟩
      conv => whnf
      refine ⟨fun h => absurd h (by decide), fun _ => ?_⟩
      conv => whnf
      refine ⟨fun h => absurd h (by decide), fun _ => ?_⟩
      conv => whnf
      refine ⟨fun h => absurd h (by simp), fun _ => ?_⟩
      exact leaf _ _ _ _ _ _
    case lst ds =>
      refine kind_run hK rfl ?_
      conv => whnf
      refine ⟨fun h => absurd h (by decide), fun _ => ?_⟩
      conv => whnf
      refine kind_run hK rfl ?_
      conv => whnf
      refine ⟨fun h => absurd h (by decide), fun _ => ?_⟩
      conv => whnf
      refine ⟨fun _ => ?_, fun h => absurd h (by decide)⟩
      refine ⟨fun _ => ?_, fun h => by cases h⟩
      conv => whnf
      refine ⟨fun h => absurd h (by simp), fun _ => ?_⟩
      have hdl : ds.length ≤ 100000 := by
        have := szs_len ds
        have e : sz (.lst ds) = szs ds + 1 := by rw [sz]
        omega
      have hcs : plainDs ds = true := by rw [plainD] at hy; exact hy
      have e : sz (.lst ds) = szs ds + 1 := by rw [sz]
      conv => whnf
      refine ⟨by constructor <;> omega, ?_⟩
      conv => whnf
      refine forL_inv (fun rs' ρ => ∃ (j : Nat) (s7 : Slot), j ≤ ds.length ∧ rs' = rngD (j : Nat) (ds.length : Nat) ∧ ρ = [.val x, .val x, .own (.lst (prs zs ++ prs (ds.take j))), .val d, .val (.lst ds), .val (.lst ds), .val (.str "list"), s7, s8]) (fun ρ hq => ?_) (fun d0 rs' ρ nx' bk' hq hn' hb' => ?_) _ _ ⟨0, s7, Nat.zero_le _, rfl, by rw [List.take_zero, show prs [] = [] from rfl, List.append_nil] <;> rfl⟩
      · obtain ⟨j, s7, hj, hr, rfl⟩ := hq
        have hl' := congrArg List.length hr
        rw [rngD_len, List.length_nil] at hl'
        have ej : j = ds.length := by omega
        subst ej
        rw [List.take_length]
        exact again ds _ _ _ _ _ _ hcs (by omega)
      · obtain ⟨j, s7, hj, hr, rfl⟩ := hq
        have hl' := congrArg List.length hr
        rw [rngD_len, List.length_cons] at hl'
        have hjl : j < ds.length := by omega
        rw [rngD_cons hjl] at hr
        cases hr
        conv => whnf
        have hat : L2.atI ds ((j : Nat) : Int) = some ds[j] := by
          unfold L2.atI L2.ixN
          rw [if_pos (by omega), if_pos (by omega)]
          show ds[((j : Nat) : Int).toNat]? = _
          rw [Int.toNat_natCast]
          exact List.getElem?_eq_getElem hjl
        refine ⟨_, hat, ?_⟩
        conv => whnf
        refine ⟨_, hat, ?_⟩
        conv => whnf
        refine ⟨.inl rfl, ?_⟩
        conv => whnf
        refine ⟨⟨rfl, ?_⟩, ?_⟩
        · have := szs_len zs
          rw [List.length_append, prs_len, prs_len, List.length_take]
          omega
        · refine hn' _ ⟨j + 1, .val (.int (j : Nat)), hjl, rfl, ?_⟩
          rw [List.take_add_one, List.getElem?_eq_getElem hjl]
          show _ = [Slot.val x, .val x, .own (.lst (prs zs ++ prs (ds.take j ++ [ds[j]]))), .val d, .val (.lst ds), .val (.lst ds), .val (.str "list"), .val (.int (j : Nat)), s8]
          rw [show prs (ds.take j ++ [ds[j]]) = prs (ds.take j) ++ [.tup [ds[j], ds[j]]] by unfold prs; rw [List.map_append] <;> rfl, ← List.append_assoc]
          rfl
    case tup ds =>
      refine kind_run hK rfl ?_
      conv => whnf
      refine ⟨fun h => absurd h (by decide), fun _ => ?_⟩
      conv => whnf
      refine kind_run hK rfl ?_
      conv => whnf
      refine ⟨fun h => absurd h (by decide), fun _ => ?_⟩
      conv => whnf
      refine ⟨fun h => absurd h (by decide), fun _ => ?_⟩
      conv => whnf
      refine ⟨fun _ => ?_, fun h => absurd h (by decide)⟩
      conv => whnf
      refine ⟨fun h => absurd h (by simp), fun _ => ?_⟩
      have hdl : ds.length ≤ 100000 := by
        have := szs_len ds
        have e : sz (.tup ds) = szs ds + 1 := by rw [sz]
        omega
      have hcs : plainDs ds = true := by rw [plainD] at hy; exact hy
      have e : sz (.tup ds) = szs ds + 1 := by rw [sz]
      conv => whnf
      refine ⟨by constructor <;> omega, ?_⟩
      conv => whnf
      refine forL_inv (fun rs' ρ => ∃ (j : Nat) (s7 : Slot), j ≤ ds.length ∧ rs' = rngD (j : Nat) (ds.length : Nat) ∧ ρ = [.val x, .val x, .own (.lst (prs zs ++ prs (ds.take j))), .val d, .val (.tup ds), .val (.tup ds), .val (.str "tuple"), s7, s8]) (fun ρ hq => ?_) (fun d0 rs' ρ nx' bk' hq hn' hb' => ?_) _ _ ⟨0, s7, Nat.zero_le _, rfl, by rw [List.take_zero, show prs [] = [] from rfl, List.append_nil] <;> rfl⟩
      · obtain ⟨j, s7, hj, hr, rfl⟩ := hq
        have hl' := congrArg List.length hr
        rw [rngD_len, List.length_nil] at hl'
        have ej : j = ds.length := by omega
        subst ej
        rw [List.take_length]
        exact again ds _ _ _ _ _ _ hcs (by omega)
      · obtain ⟨j, s7, hj, hr, rfl⟩ := hq
        have hl' := congrArg List.length hr
        rw [rngD_len, List.length_cons] at hl'
        have hjl : j < ds.length := by omega
        rw [rngD_cons hjl] at hr
        cases hr
        conv => whnf
        have hat : L2.atI ds ((j : Nat) : Int) = some ds[j] := by
          unfold L2.atI L2.ixN
          rw [if_pos (by omega), if_pos (by omega)]
          show ds[((j : Nat) : Int).toNat]? = _
          rw [Int.toNat_natCast]
          exact List.getElem?_eq_getElem hjl
        refine ⟨_, hat, ?_⟩
        conv => whnf
        refine ⟨_, hat, ?_⟩
        conv => whnf
        refine ⟨.inl rfl, ?_⟩
        conv => whnf
        refine ⟨⟨rfl, ?_⟩, ?_⟩
        · have := szs_len zs
          rw [List.length_append, prs_len, prs_len, List.length_take]
          omega
        · refine hn' _ ⟨j + 1, .val (.int (j : Nat)), hjl, rfl, ?_⟩
          rw [List.take_add_one, List.getElem?_eq_getElem hjl]
          show _ = [Slot.val x, .val x, .own (.lst (prs zs ++ prs (ds.take j ++ [ds[j]]))), .val d, .val (.tup ds), .val (.tup ds), .val (.str "tuple"), .val (.int (j : Nat)), s8]
          rw [show prs (ds.take j ++ [ds[j]]) = prs (ds.take j) ++ [.tup [ds[j], ds[j]]] by unfold prs; rw [List.map_append] <;> rfl, ← List.append_assoc]
          rfl
  · have : szs [x] = sz x := by rw [szs, szs, Nat.add_zero]
    rw [this, hrl]
    omega
theorem same_run (hP : Γ m = spSame) {x y : D} {K : Bool → D → Prop} {E : Exc → Prop} (e : x = y) (hp : plainD x = true) (hz : sz x ≤ 100000) (h : K false (.bl true)) : (Γ m).run [x, y] K E := by
  rw [hP]
  subst e
  exact run_det (α := D) x rfl ⟨hp, hz⟩ h
def ilst (ms : List Int) : D := .lst (ms.map .int)
theorem plain_ints : ∀ ms : List Int, plainDs (ms.map .int) = true
  | [] => rfl
  | m :: ms => by rw [List.map_cons, plainDs, plain_ints ms] <;> rfl
theorem szs_ints : ∀ ms : List Int, szs (ms.map .int) = ms.length
  | [] => rfl
  | m :: ms => by
    rw [List.map_cons, szs, szs_ints ms, List.length_cons]
    have : sz (.int m) = 1 := rfl
    omega
theorem plain_ilst (ms : List Int) : plainD (ilst ms) = true := plain_ints ms
theorem sz_ilst (ms : List Int) : sz (ilst ms) = ms.length + 1 := by
  unfold ilst
  rw [sz, szs_ints]
theorem intsL {α : Type} {h : α → Int} : ∀ ms : List α, intsD (ms.map fun b => D.int (h b)) = some (ms.map h)
  | [] => rfl
  | m :: ms => by
    rw [List.map_cons, List.map_cons]
    unfold intsD
    rw [intsL ms] <;> rfl
def rgI (lo hi : Int) : List Int := (List.range (hi - lo).toNat).map fun (k : Nat) => lo + (k : Nat)
theorem rngD_ints (lo hi : Int) : rngD lo hi = (rgI lo hi).map .int := by
  unfold rngD rgI
  rw [List.map_map] <;> rfl
theorem rgI_mem {lo hi m : Int} (h : m ∈ rgI lo hi) : lo ≤ m ∧ m < hi := by
  unfold rgI at h
  obtain ⟨k, hk, rfl⟩ := List.mem_map.mp h
  have := List.mem_range.mp hk
  omega
theorem rgI_len (lo hi : Int) : (rgI lo hi).length = (hi - lo).toNat := by
  unfold rgI
  rw [List.length_map, List.length_range]
/-- a comprehension of drawn numbers -/
theorem compL_draw {own : List Nat} {step : D → En → EK → (En → Prop) → Prop} {K : List D → En → Prop} (p : Int → Prop) {ρ : En} (ρd : D → En) (hw : ∀ d, wipeV own (ρd d) = ρ) (rs : List D) (hl : rs.length ≤ lim)
    (hs : ∀ d ∈ rs, ∀ (Ka : EK) (Ks : En → Prop), (∀ r, p r → Ka (.val (.int r)) (ρd d)) → step d ρ Ka Ks) (hk : ∀ ms : List Int, ms.length = rs.length → (∀ m ∈ ms, p m) → K (ms.map .int) ρ) : compL own step rs [] ρ K := by
  have main : ∀ (ds : List D) (ms : List Int), (∀ d ∈ ds, d ∈ rs) → ms.length + ds.length = rs.length → (∀ m ∈ ms, p m) → compL own step ds (ms.map .int) ρ K := by
    intro ds
    induction ds with
    | nil => exact fun ms _ h1 h2 => hk ms (by simpa using h1) h2
    | cons d ds ih =>
      intro ms h0 h1 h2
      rw [List.length_cons] at h1
      refine hs d (h0 d List.mem_cons_self) _ _ fun r hr => ?_
      refine ⟨by rw [List.length_map]; omega, ?_⟩
      show compL own step ds (ms.map .int ++ [.int r]) (wipeV own (ρd d)) K
      rw [hw]
      have := ih (ms ++ [r]) (fun d' hd' => h0 d' (List.mem_cons_of_mem _ hd')) (by rw [List.length_append, List.length_singleton]; omega) fun m hm => by
        rcases List.mem_append.mp hm with hm | hm
        · exact h2 m hm
        · rw [List.mem_singleton.mp hm]; exact hr
      rw [List.map_append] at this
      exact this
  exact main rs [] (fun _ h => h) (by rw [List.length_nil, Nat.zero_add]) fun m hm => by cases hm
theorem perm_map {α β : Type} {f : α → β} {es l : List β} (h : es.Perm l) : ∀ xs : List α, l = xs.map f → ∃ ys : List α, es = ys.map f ∧ ys.Perm xs := by
  induction h with
  | nil =>
    intro xs e
    have : xs = [] := List.map_eq_nil_iff.mp e.symm
    subst this
    exact ⟨[], rfl, List.Perm.refl _⟩
  | cons a h ih =>
    intro xs e
    cases xs with
    | nil => cases e
    | cons x xs =>
      cases e
      obtain ⟨ys, rfl, hp⟩ := ih xs rfl
      exact ⟨x :: ys, rfl, hp.cons x⟩
  | swap a b l =>
    intro xs e
    match xs, e with
    | x :: y :: xs, e =>
      cases e
      exact ⟨y :: x :: xs, rfl, List.Perm.swap _ _ _⟩
  | trans h1 h2 ih1 ih2 =>
    intro xs e
    obtain ⟨ys, rfl, hp⟩ := ih2 xs e
    obtain ⟨zs, rfl, hq⟩ := ih1 ys rfl
    exact ⟨zs, rfl, hq.trans hp⟩
end
end VL
set_option maxHeartbeats 0
namespace Law
open PySem PySem.Spec PyProof.Rows L2 VL
abbrev RW := PySem.Challenge.rw_skipsnought_k20_faces_and_supports
abbrev R : PySem.W.OpenRow := PySem.W.OpenLaw.row RW
def top (i : Nat) : Stmt := PySem.Challenge.pw_skipsnought_k20_faces_and_supports.main.body.getD i (.Pass ⟨0, 0, 0, 0⟩)
def dd (x : Str) (i : Nat) : He.DefD := ⟨(x, none), x, x, defArgs (top i), defBody (top i), defScope (top i), [], []⟩
def fn_0 : List (He.DefD) := [dd "lies_within" 13, dd "avoids" 14, dd "least_masks" 15, dd "greatest_masks" 16, dd "avoiding_masks" 17, dd "check_many" 18, dd "faces_of" 19, dd "supports_of" 20, dd "_law_mix" 22, dd "_law_store" 23, dd "_law_take" 24, dd "_law_pick" 25, dd "_law_shuffle" 26, dd "_law_natural" 27, dd "_law_unique" 28, dd "_law_kind" 29, dd "_law_same" 30, dd "_law_fault" 31, dd "_law_within" 32, dd "_law_faces_due" 33, dd "_law_supports_due" 34, dd "_law_edge" 35, dd "_law_drawn" 36, dd "_law_both_right" 37, dd "_law_refused" 38]
def fn_1 : List (He.DefD) := [dd "law" 39, ini "TooMany" "TooMany.__init__" (top 7) 0]
def fn : List (He.DefD) := fn_0 ++ fn_1
def fa_0 : List (He.Fa) := [.glo "lies_within", .glo "avoids", .glo "least_masks", .glo "greatest_masks", .glo "avoiding_masks", .glo "check_many", .glo "faces_of", .glo "supports_of", .glo "_law_mix", .glo "_law_store", .glo "_law_take", .glo "_law_pick", .glo "_law_shuffle", .glo "_law_natural", .glo "_law_unique", .glo "_law_kind", .glo "_law_same", .glo "_law_fault", .glo "_law_within", .glo "_law_faces_due", .glo "_law_supports_due", .glo "_law_edge", .glo "_law_drawn", .glo "_law_both_right", .glo "_law_refused"]
def fa_1 : List (He.Fa) := [.glo "law", .glo "SkipError", .glo "TextError", .glo "UnknownName", .glo "Taken", .glo "WrongShape", .glo "BadPlace", .glo "TooMany", .glo "BadPlan", .glo "BadCode", .glo "BadPaper", .int "MOST_ATOMS" 5, .free "ValueError", .free "enumerate", .free "range", .free "int", .free "list", .free "isinstance", .free "bool", .free "str", .free "tuple", .free "dict", .free "sorted", .free "len", .free "abs"]
def fa_2 : List (He.Fa) := [.free "any", .free "min", .free "max", .free "sum"]
def fa : List (He.Fa) := fa_0 ++ fa_1 ++ fa_2
def rs : List (Str × List Str) := [("TooMany", ["what", "limit"])]
def ts : List (Str × CN × List Bool) := [("TextError", .own "TextError", [false]), ("UnknownName", .own "UnknownName", [false]), ("Taken", .own "Taken", [false]), ("WrongShape", .own "WrongShape", [false]), ("BadPlace", .own "BadPlace", [false]), ("TooMany", .own "TooMany", [true]), ("BadPlan", .own "BadPlan", [false]), ("BadCode", .own "BadCode", [false]), ("BadPaper", .own "BadPaper", [false]), ("SkipError", .own "SkipError", [true]), ("ValueError", .blt "ValueError", [true])]
abbrev hk : PySem.W.Hook := He.hookX 5 fa fn [] [] (exB rs ts)
def ob (s : PySem.W.SharedT) : He.AlX := He.obsX 5 fa fn [] [] (exB rs ts) (HandSHeadRun.getT s)
theorem ob_eq (s : PySem.W.SharedT) : ob s = hk.obs s.abs := He.obsX_eq (HandSHeadRun.getT_eq s)
def loose_0 : List (Str) := ["SkipError", "TextError", "UnknownName", "Taken", "WrongShape", "BadPlace", "TooMany", "BadPlan", "BadCode", "BadPaper", "MOST_ATOMS", "lies_within", "avoids", "least_masks", "greatest_masks", "avoiding_masks", "check_many", "faces_of", "supports_of", "_law_mix", "_law_store", "_law_take", "_law_pick", "_law_shuffle", "_law_natural"]
def loose_1 : List (Str) := ["_law_unique", "_law_kind", "_law_same", "_law_fault", "_law_within", "_law_faces_due", "_law_supports_due", "_law_edge", "_law_drawn", "_law_both_right", "_law_refused"]
def loose : List (Str) := loose_0 ++ loose_1
theorem run (w : World) : HandSHeadRun.RunEq R (PySem.W.view R.prog [39]) hk ob 4000 loose w := by
  intro os
  kernel_rfl

def ccons : List (Str × D) := [("MOST_ATOMS", (.int 5))]
def cblt : List (Str) := ["enumerate", "range", "int", "list", "isinstance", "bool", "str", "tuple", "dict", "sorted", "len", "abs", "any", "min", "max", "sum"]
def cflds : List (Str × List (Nat × Nat)) := [("at", []), ("which", []), ("what", [(0, 0)]), ("limit", [(0, 1)]), ("at_node", []), ("at_lot", []), ("row", [])]
def cisx : List (Str × List (Nat × Bool)) := [("TextError", [(0, false)]), ("UnknownName", [(0, false)]), ("Taken", [(0, false)]), ("WrongShape", [(0, false)]), ("BadPlace", [(0, false)]), ("TooMany", [(0, true)]), ("BadPlan", [(0, false)]), ("BadCode", [(0, false)]), ("BadPaper", [(0, false)]), ("SkipError", [(0, true)]), ("ValueError", [(0, true)])]
def ccons2 : List (Str × Nat × Nat) := [("TooMany", 0, 2)]
def chfns : List (Str × Nat) := [("_law_fault", 17)]
abbrev ccOf (N : List Str) (i : Nat) (fns : List (Str × Nat)) : CC := ⟨N, defScope (top i), fun _ => true, fns, ccons, cblt, false, cflds, cisx, ccons2, chfns⟩
abbrev ccX (N : List Str) (i : Nat) (fns : List (Str × Nat)) : CC := ⟨N, defScope (top i), fun _ => true, fns, ccons, cblt, true, cflds, cisx, ccons2, []⟩
/-! lies_within -/
def N0 : List Str := ["small", "large"]
def ps0 : List Str := ["small", "large"]
theorem sc0 : FnScope N0 ps0 (defScope (top 13)) := ⟨rfl, rfl, rfl, by decide +kernel, rfl, by decide +kernel, by decide +kernel⟩
def cc0 : CC := ccOf N0 13 []
def ir0 : VSs := (.cons (.ret (.cmp .Eq (.bin .BitAnd (.var 0) (.var 1)) (.var 0)))
  .nil)
theorem ir0_eq : mapS (cS 40 cc0) ((defBody (top 13))) = ir0 := by kernel_rfl
/-! avoids -/
def N1 : List Str := ["mask", "supports", "one"]
def ps1 : List Str := ["mask", "supports"]
theorem sc1 : FnScope N1 ps1 (defScope (top 14)) := ⟨rfl, rfl, rfl, by decide +kernel, rfl, by decide +kernel, by decide +kernel⟩
def cc1 : CC := ccOf N1 14 [("lies_within", 0)]
def ir1 : VSs := (.cons (.forS (.nm 2) (.it (.var 1)) (.cons (.ifS (.tv (.call 0 (.cons (.var 2) (.cons (.var 0) .nil)))) (.cons (.ret (.cst (.bl false)))
  .nil) .nil)
  .nil))
  (.cons (.ret (.cst (.bl true)))
  .nil))
theorem ir1_eq : mapS (cS 40 cc1) ((defBody (top 14))) = ir1 := by kernel_rfl
/-! least_masks -/
def N2 : List Str := ["masks", "mask", "one"]
def ps2 : List Str := ["masks"]
theorem sc2 : FnScope N2 ps2 (defScope (top 15)) := ⟨rfl, rfl, rfl, by decide +kernel, rfl, by decide +kernel, by decide +kernel⟩
def cc2 : CC := ccOf N2 15 [("lies_within", 0)]
def ir2 : VSs := (.cons (.ret (.comp [1] (.var 1) (.nm 1) (.it (.var 0)) (.tnot (.tv (.blt .any (.cons (.comp [2] (.andE (.cmp .NotEq (.var 2) (.var 1)) (.call 0 (.cons (.var 2) (.cons (.var 1) .nil)))) (.nm 2) (.it (.var 0)) .tyes) .nil))))))
  .nil)
theorem ir2_eq : mapS (cS 40 cc2) ((defBody (top 15))) = ir2 := by kernel_rfl
/-! greatest_masks -/
def N3 : List Str := ["masks", "mask", "one"]
def ps3 : List Str := ["masks"]
theorem sc3 : FnScope N3 ps3 (defScope (top 16)) := ⟨rfl, rfl, rfl, by decide +kernel, rfl, by decide +kernel, by decide +kernel⟩
def cc3 : CC := ccOf N3 16 [("lies_within", 0)]
def ir3 : VSs := (.cons (.ret (.comp [1] (.var 1) (.nm 1) (.it (.var 0)) (.tnot (.tv (.blt .any (.cons (.comp [2] (.andE (.cmp .NotEq (.var 2) (.var 1)) (.call 0 (.cons (.var 1) (.cons (.var 2) .nil)))) (.nm 2) (.it (.var 0)) .tyes) .nil))))))
  .nil)
theorem ir3_eq : mapS (cS 40 cc3) ((defBody (top 16))) = ir3 := by kernel_rfl
/-! avoiding_masks -/
def N4 : List Str := ["supports", "many", "mask"]
def ps4 : List Str := ["supports", "many"]
theorem sc4 : FnScope N4 ps4 (defScope (top 17)) := ⟨rfl, rfl, rfl, by decide +kernel, rfl, by decide +kernel, by decide +kernel⟩
def cc4 : CC := ccOf N4 17 [("avoids", 1)]
def ir4 : VSs := (.cons (.ret (.comp [2] (.var 2) (.nm 2) (.rng (.cons (.bin .LShift (.cst (.int 1)) (.var 1)) .nil)) (.tv (.call 1 (.cons (.var 2) (.cons (.var 0) .nil))))))
  .nil)
theorem ir4_eq : mapS (cS 40 cc4) ((defBody (top 17))) = ir4 := by kernel_rfl
/-! check_many -/
def N5 : List Str := ["many"]
def ps5 : List Str := ["many"]
theorem sc5 : FnScope N5 ps5 (defScope (top 18)) := ⟨rfl, rfl, rfl, by decide +kernel, rfl, by decide +kernel, by decide +kernel⟩
def cc5 : CC := ccOf N5 18 []
def ir5 : VSs := (.cons (.ifS (.tv (.cmp .Gt (.var 0) (.cst (.int 5)))) (.cons (.rse 0 2 (.cons (.cst (.str "atoms")) (.cons (.cst (.int 5)) .nil)))
  .nil) .nil)
  .nil)
theorem ir5_eq : mapS (cS 40 cc5) ((defBody (top 18))) = ir5 := by kernel_rfl
/-! faces_of -/
def N6 : List Str := ["supports", "many"]
def ps6 : List Str := ["supports", "many"]
theorem sc6 : FnScope N6 ps6 (defScope (top 19)) := ⟨rfl, rfl, rfl, by decide +kernel, rfl, by decide +kernel, by decide +kernel⟩
def cc6 : CC := ccOf N6 19 [("greatest_masks", 3), ("avoiding_masks", 4), ("check_many", 5)]
def ir6 : VSs := (.cons (.ex (.call 5 (.cons (.var 1) .nil)))
  (.cons (.ret (.call 3 (.cons (.call 4 (.cons (.var 0) (.cons (.var 1) .nil))) .nil)))
  .nil))
theorem ir6_eq : mapS (cS 40 cc6) ((defBody (top 19))) = ir6 := by kernel_rfl
/-! supports_of -/
def N7 : List Str := ["face_masks", "many", "mask", "face", "free"]
def ps7 : List Str := ["face_masks", "many"]
theorem sc7 : FnScope N7 ps7 (defScope (top 20)) := ⟨rfl, rfl, rfl, by decide +kernel, rfl, by decide +kernel, by decide +kernel⟩
def cc7 : CC := ccOf N7 20 [("lies_within", 0), ("least_masks", 2), ("check_many", 5)]
def ir7 : VSs := (.cons (.ex (.call 5 (.cons (.var 1) .nil)))
  (.cons (.asg (.nm 4) (.comp [2] (.var 2) (.nm 2) (.rng (.cons (.bin .LShift (.cst (.int 1)) (.var 1)) .nil)) (.tnot (.tv (.blt .any (.cons (.comp [3] (.call 0 (.cons (.var 2) (.cons (.var 3) .nil))) (.nm 3) (.it (.var 0)) .tyes) .nil))))))
  (.cons (.ret (.call 2 (.cons (.var 4) .nil)))
  .nil)))
theorem ir7_eq : mapS (cS 40 cc7) ((defBody (top 20))) = ir7 := by kernel_rfl
/-! _law_mix -/
abbrev N8 : List Str := ["cell", "turn", "low", "one", "two"]
abbrev ps8 : List Str := ["cell", "turn"]
theorem sc8 : FnScope N8 ps8 (defScope (top 22)) := ⟨rfl, rfl, rfl, by decide +kernel, rfl, by decide +kernel, by decide +kernel⟩
theorem ir8N_eq : NL.mapN (NL.cs 40 ⟨N8, defScope (top 22)⟩) (defBody (top 22)) = NL.ir_law_mix := by kernel_rfl
/-! _law_store -/
abbrev N9 : List Str := ["script", "cell", "cells", "seed", "k"]
abbrev ps9 : List Str := ["script"]
theorem sc9 : FnScope N9 ps9 (defScope (top 23)) := ⟨rfl, rfl, rfl, by decide +kernel, rfl, by decide +kernel, by decide +kernel⟩
/-! _law_take -/
abbrev N10 : List Str := ["store", "many", "k", "cell", "rest", "base", "got"]
abbrev ps10 : List Str := ["store", "many"]
theorem sc10 : FnScope N10 ps10 (defScope (top 24)) := ⟨rfl, rfl, rfl, by decide +kernel, rfl, by decide +kernel, by decide +kernel⟩
theorem ir10N_eq : NL.mapN (NL.cs 40 ⟨N10, defScope (top 24)⟩) (defBody (top 24)) = NL.ir_law_take := by kernel_rfl
/-! _law_pick -/
def N11 : List Str := ["store", "row"]
def ps11 : List Str := ["store", "row"]
theorem sc11 : FnScope N11 ps11 (defScope (top 25)) := ⟨rfl, rfl, rfl, by decide +kernel, rfl, by decide +kernel, by decide +kernel⟩
def cc11 : CC := ccOf N11 25 [("_law_take", 10)]
def ir11 : VSs := (.cons (.ret (.ix (.var 1) (.call 10 (.cons (.var 0) (.cons (.blt .len (.cons (.var 1) .nil)) .nil)))))
  .nil)
theorem ir11_eq : mapS (cS 40 cc11) ((defBody (top 25))) = ir11 := by kernel_rfl
/-! _law_shuffle -/
def N12 : List Str := ["store", "row", "left", "found", "k"]
def ps12 : List Str := ["store", "row"]
theorem sc12 : FnScope N12 ps12 (defScope (top 26)) := ⟨rfl, rfl, rfl, by decide +kernel, rfl, by decide +kernel, by decide +kernel⟩
def cc12 : CC := ccOf N12 26 [("_law_take", 10)]
def ir12 : VSs := (.cons (.asg (.nm 2) (.blt .list (.cons (.var 1) .nil)))
  (.cons (.asg (.nm 3) (.lst .nil))
  (.cons (.forS (.nm 4) (.rng (.cons (.blt .len (.cons (.var 1) .nil)) .nil)) (.cons (.ex (.met .append (.var 3) (.cons (.met .pop (.var 2) (.cons (.call 10 (.cons (.var 0) (.cons (.blt .len (.cons (.var 2) .nil)) .nil))) .nil)) .nil)))
  .nil))
  (.cons (.ret (.var 3))
  .nil))))
theorem ir12_eq : mapS (cS 40 cc12) ((defBody (top 26))) = ir12 := by kernel_rfl
/-! _law_natural -/
def N13 : List Str := ["store", "top", "which"]
def ps13 : List Str := ["store", "top"]
theorem sc13 : FnScope N13 ps13 (defScope (top 27)) := ⟨rfl, rfl, rfl, by decide +kernel, rfl, by decide +kernel, by decide +kernel⟩
def cc13 : CC := ccOf N13 27 [("_law_take", 10)]
def ir13 : VSs := (.cons (.asg (.nm 2) (.call 10 (.cons (.var 0) (.cons (.cst (.int 12)) .nil))))
  (.cons (.ifS (.tv (.cmp .Lt (.var 2) (.cst (.int 4)))) (.cons (.ret (.ix (.lst (.cons (.cst (.int 0)) (.cons (.blt .min (.cons (.cst (.int 1)) (.cons (.var 1) .nil))) (.cons (.blt .max (.cons (.cst (.int 0)) (.cons (.bin .Sub (.var 1) (.cst (.int 1))) .nil))) (.cons (.var 1) .nil))))) (.var 2)))
  .nil) .nil)
  (.cons (.ret (.call 10 (.cons (.var 0) (.cons (.bin .Add (.var 1) (.cst (.int 1))) .nil))))
  .nil)))
theorem ir13_eq : mapS (cS 40 cc13) ((defBody (top 27))) = ir13 := by kernel_rfl
/-! _law_unique -/
def N14 : List Str := ["row", "found", "thing"]
def ps14 : List Str := ["row"]
theorem sc14 : FnScope N14 ps14 (defScope (top 28)) := ⟨rfl, rfl, rfl, by decide +kernel, rfl, by decide +kernel, by decide +kernel⟩
def cc14 : CC := ccOf N14 28 []
def ir14 : VSs := (.cons (.asg (.nm 1) (.lst .nil))
  (.cons (.forS (.nm 2) (.it (.blt .list (.cons (.var 0) .nil))) (.cons (.ifS (.tv (.cmp .NotIn (.var 2) (.var 1))) (.cons (.ex (.met .append (.var 1) (.cons (.var 2) .nil)))
  .nil) .nil)
  .nil))
  (.cons (.ret (.var 1))
  .nil)))
theorem ir14_eq : mapS (cS 40 cc14) ((defBody (top 28))) = ir14 := by kernel_rfl
/-! _law_kind -/
def N15 : List Str := ["thing"]
def ps15 : List Str := ["thing"]
theorem sc15 : FnScope N15 ps15 (defScope (top 29)) := ⟨rfl, rfl, rfl, by decide +kernel, rfl, by decide +kernel, by decide +kernel⟩
def cc15 : CC := ccOf N15 29 []
def ir15 : VSs := (.cons (.ifS (.tv (.cmp .Is (.var 0) (.cst .non))) (.cons (.ret (.cst (.str "none")))
  .nil) .nil)
  (.cons (.ifS (.tv (.isin (.var 0) (.bi "bool"))) (.cons (.ret (.cst (.str "bool")))
  .nil) .nil)
  (.cons (.ifS (.tv (.isin (.var 0) (.bi "int"))) (.cons (.ret (.cst (.str "int")))
  .nil) .nil)
  (.cons (.ifS (.tv (.isin (.var 0) (.bi "str"))) (.cons (.ret (.cst (.str "text")))
  .nil) .nil)
  (.cons (.ifS (.tv (.isin (.var 0) (.bi "list"))) (.cons (.ret (.cst (.str "list")))
  .nil) .nil)
  (.cons (.ifS (.tv (.isin (.var 0) (.bi "tuple"))) (.cons (.ret (.cst (.str "tuple")))
  .nil) .nil)
  (.cons (.ifS (.tv (.isin (.var 0) (.bi "dict"))) (.cons (.ret (.cst (.str "dict")))
  .nil) .nil)
  (.cons (.ret (.cst (.str "other")))
  .nil))))))))
theorem ir15_eq : mapS (cS 40 cc15) ((defBody (top 29))) = ir15 := by kernel_rfl
/-! _law_same -/
def N16 : List Str := ["told", "due", "left", "k", "one", "two", "kind", "j", "key"]
def ps16 : List Str := ["told", "due"]
theorem sc16 : FnScope N16 ps16 (defScope (top 30)) := ⟨rfl, rfl, rfl, by decide +kernel, rfl, by decide +kernel, by decide +kernel⟩
def cc16 : CC := ccOf N16 30 [("_law_kind", 15)]
def ir16 : VSs := (.cons (.asg (.nm 2) (.lst (.cons (.tup (.cons (.var 0) (.cons (.var 1) .nil))) .nil)))
  (.cons (.forS (.nm 3) (.rng (.cons (.cst (.int 100001)) .nil)) (.cons (.ifS (.tv (.cmp .Eq (.blt .len (.cons (.var 2) .nil)) (.cst (.int 0)))) (.cons (.ret (.cst (.bl true)))
  .nil) .nil)
  (.cons (.asg (.tp (.cons (.nm 4) (.cons (.nm 5) .nil))) (.met .pop (.var 2) .nil))
  (.cons (.asg (.nm 6) (.call 15 (.cons (.var 5) .nil)))
  (.cons (.ifS (.tor (.tv (.cmp .Eq (.var 6) (.cst (.str "other")))) (.tv (.cmp .NotEq (.call 15 (.cons (.var 4) .nil)) (.var 6)))) (.cons (.ret (.cst (.bl false)))
  .nil) .nil)
  (.cons (.ifS (.tor (.tv (.cmp .Eq (.var 6) (.cst (.str "list")))) (.tv (.cmp .Eq (.var 6) (.cst (.str "tuple"))))) (.cons (.ifS (.tv (.cmp .NotEq (.blt .len (.cons (.var 4) .nil)) (.blt .len (.cons (.var 5) .nil)))) (.cons (.ret (.cst (.bl false)))
  .nil) .nil)
  (.cons (.forS (.nm 7) (.rng (.cons (.blt .len (.cons (.var 5) .nil)) .nil)) (.cons (.ex (.met .append (.var 2) (.cons (.tup (.cons (.ix (.var 4) (.var 7)) (.cons (.ix (.var 5) (.var 7)) .nil))) .nil)))
  .nil))
  .nil)) (.cons (.ifS (.tv (.cmp .Eq (.var 6) (.cst (.str "dict")))) (.cons (.ifS (.tv (.cmp .NotEq (.blt .len (.cons (.var 4) .nil)) (.blt .len (.cons (.var 5) .nil)))) (.cons (.ret (.cst (.bl false)))
  .nil) .nil)
  (.cons (.forS (.nm 8) (.it (.blt .list (.cons (.var 4) .nil))) (.cons (.ifS (.tor (.tv (.cmp .Eq (.call 15 (.cons (.var 8) .nil)) (.cst (.str "bool")))) (.tv (.cmp .NotIn (.var 8) (.var 5)))) (.cons (.ret (.cst (.bl false)))
  .nil) .nil)
  (.cons (.ex (.met .append (.var 2) (.cons (.tup (.cons (.ix (.var 4) (.var 8)) (.cons (.ix (.var 5) (.var 8)) .nil))) .nil)))
  .nil)))
  .nil)) (.cons (.ifS (.tv (.cmp .NotEq (.var 4) (.var 5))) (.cons (.ret (.cst (.bl false)))
  .nil) .nil)
  .nil))
  .nil))
  .nil))))))
  (.cons (.ret (.cst (.bl false)))
  .nil)))
theorem ir16_eq : mapS (cS 40 cc16) ((defBody (top 30))) = ir16 := by kernel_rfl
/-! _law_fault -/
def N17 : List Str := ["e", "found"]
def ps17 : List Str := ["e"]
theorem sc17 : FnScope N17 ps17 (defScope (top 31)) := ⟨rfl, rfl, rfl, by decide +kernel, rfl, by decide +kernel, by decide +kernel⟩
/-! _law_within -/
def N18 : List Str := ["one", "two"]
def ps18 : List Str := ["one", "two"]
theorem sc18 : FnScope N18 ps18 (defScope (top 32)) := ⟨rfl, rfl, rfl, by decide +kernel, rfl, by decide +kernel, by decide +kernel⟩
def cc18 : CC := ccOf N18 32 []
def ir18 : VSs := (.cons (.ret (.cmp .Eq (.bin .BitAnd (.var 0) (.var 1)) (.var 0)))
  .nil)
theorem ir18_eq : mapS (cS 40 cc18) ((defBody (top 32))) = ir18 := by kernel_rfl
/-! _law_faces_due -/
def N19 : List Str := ["masks", "many", "m", "s", "free", "n"]
def ps19 : List Str := ["masks", "many"]
theorem sc19 : FnScope N19 ps19 (defScope (top 33)) := ⟨rfl, rfl, rfl, by decide +kernel, rfl, by decide +kernel, by decide +kernel⟩
def cc19 : CC := ccOf N19 33 [("_law_within", 18)]
def ir19 : VSs := (.cons (.asg (.nm 4) (.comp [2] (.var 2) (.nm 2) (.rng (.cons (.bin .LShift (.cst (.int 1)) (.var 1)) .nil)) (.tv (.cmp .Eq (.blt .len (.cons (.comp [3] (.var 3) (.nm 3) (.it (.var 0)) (.tv (.call 18 (.cons (.var 3) (.cons (.var 2) .nil))))) .nil)) (.cst (.int 0))))))
  (.cons (.ret (.comp [2] (.var 2) (.nm 2) (.it (.var 4)) (.tv (.cmp .Eq (.blt .len (.cons (.comp [5] (.var 5) (.nm 5) (.it (.var 4)) (.tand (.tv (.cmp .NotEq (.var 5) (.var 2))) (.tv (.call 18 (.cons (.var 2) (.cons (.var 5) .nil)))))) .nil)) (.cst (.int 0))))))
  .nil))
theorem ir19_eq : mapS (cS 40 cc19) ((defBody (top 33))) = ir19 := by kernel_rfl
/-! _law_supports_due -/
def N20 : List Str := ["masks", "many", "m", "s", "free", "n"]
def ps20 : List Str := ["masks", "many"]
theorem sc20 : FnScope N20 ps20 (defScope (top 34)) := ⟨rfl, rfl, rfl, by decide +kernel, rfl, by decide +kernel, by decide +kernel⟩
def cc20 : CC := ccOf N20 34 [("_law_within", 18)]
def ir20 : VSs := (.cons (.asg (.nm 4) (.comp [2] (.var 2) (.nm 2) (.rng (.cons (.bin .LShift (.cst (.int 1)) (.var 1)) .nil)) (.tv (.cmp .Eq (.blt .len (.cons (.comp [3] (.var 3) (.nm 3) (.it (.var 0)) (.tv (.call 18 (.cons (.var 2) (.cons (.var 3) .nil))))) .nil)) (.cst (.int 0))))))
  (.cons (.ret (.comp [2] (.var 2) (.nm 2) (.it (.var 4)) (.tv (.cmp .Eq (.blt .len (.cons (.comp [5] (.var 5) (.nm 5) (.it (.var 4)) (.tand (.tv (.cmp .NotEq (.var 5) (.var 2))) (.tv (.call 18 (.cons (.var 5) (.cons (.var 2) .nil)))))) .nil)) (.cst (.int 0))))))
  .nil))
theorem ir20_eq : mapS (cS 40 cc20) ((defBody (top 34))) = ir20 := by kernel_rfl
/-! _law_edge -/
def N21 : List Str := ["masks", "way", "found", "m", "n"]
def ps21 : List Str := ["masks", "way"]
theorem sc21 : FnScope N21 ps21 (defScope (top 35)) := ⟨rfl, rfl, rfl, by decide +kernel, rfl, by decide +kernel, by decide +kernel⟩
def cc21 : CC := ccOf N21 35 [("_law_unique", 14), ("_law_within", 18)]
def ir21 : VSs := (.cons (.asg (.nm 2) (.lst .nil))
  (.cons (.forS (.nm 3) (.it (.blt .sorted (.cons (.call 14 (.cons (.var 0) .nil)) .nil))) (.cons (.ifS (.tand (.tv (.cmp .Eq (.var 1) (.cst (.int 0)))) (.tv (.cmp .Eq (.blt .len (.cons (.comp [4] (.var 4) (.nm 4) (.it (.var 0)) (.tand (.tv (.cmp .NotEq (.var 4) (.var 3))) (.tv (.call 18 (.cons (.var 4) (.cons (.var 3) .nil)))))) .nil)) (.cst (.int 0))))) (.cons (.ex (.met .append (.var 2) (.cons (.var 3) .nil)))
  .nil) .nil)
  (.cons (.ifS (.tand (.tv (.cmp .Eq (.var 1) (.cst (.int 1)))) (.tv (.cmp .Eq (.blt .len (.cons (.comp [4] (.var 4) (.nm 4) (.it (.var 0)) (.tand (.tv (.cmp .NotEq (.var 4) (.var 3))) (.tv (.call 18 (.cons (.var 3) (.cons (.var 4) .nil)))))) .nil)) (.cst (.int 0))))) (.cons (.ex (.met .append (.var 2) (.cons (.var 3) .nil)))
  .nil) .nil)
  .nil)))
  (.cons (.ret (.var 2))
  .nil)))
theorem ir21_eq : mapS (cS 40 cc21) ((defBody (top 35))) = ir21 := by kernel_rfl
/-! _law_drawn -/
def N22 : List Str := ["store", "many", "form", "top", "size", "m", "b", "row", "k"]
def ps22 : List Str := ["store", "many"]
theorem sc22 : FnScope N22 ps22 (defScope (top 36)) := ⟨rfl, rfl, rfl, by decide +kernel, rfl, by decide +kernel, by decide +kernel⟩
def cc22 : CC := ccOf N22 36 [("_law_take", 10), ("_law_shuffle", 12), ("_law_natural", 13)]
def ir22 : VSs := (.cons (.asg (.nm 2) (.call 10 (.cons (.var 0) (.cons (.cst (.int 6)) .nil))))
  (.cons (.asg (.nm 3) (.bin .Sub (.bin .LShift (.cst (.int 1)) (.var 1)) (.cst (.int 1))))
  (.cons (.ifS (.tv (.cmp .Eq (.var 2) (.cst (.int 0)))) (.cons (.asg (.nm 4) (.call 10 (.cons (.var 0) (.cons (.cst (.int 6)) .nil))))
  (.cons (.asg (.nm 7) (.comp [5] (.var 5) (.nm 5) (.rng (.cons (.bin .Add (.var 3) (.cst (.int 1))) .nil)) (.tv (.cmp .Eq (.blt .sum (.cons (.comp [6] (.bin .BitAnd (.bin .RShift (.var 5) (.var 6)) (.cst (.int 1))) (.nm 6) (.rng (.cons (.var 1) .nil)) .tyes) .nil)) (.var 4)))))
  (.cons (.ret (.call 12 (.cons (.var 0) (.cons (.var 7) .nil))))
  .nil))) .nil)
  (.cons (.ifS (.tv (.cmp .Eq (.var 2) (.cst (.int 1)))) (.cons (.ret (.comp [8] (.call 13 (.cons (.var 0) (.cons (.var 3) .nil))) (.nm 8) (.rng (.cons (.call 13 (.cons (.var 0) (.cons (.cst (.int 40)) .nil))) .nil)) .tyes))
  .nil) .nil)
  (.cons (.ifS (.tv (.cmp .Eq (.var 2) (.cst (.int 2)))) (.cons (.ret (.sl (.call 12 (.cons (.var 0) (.cons (.lrg .none (.bin .Add (.var 3) (.cst (.int 1)))) .nil))) (.some (.call 10 (.cons (.var 0) (.cons (.cst (.int 3)) .nil)))) .none))
  .nil) .nil)
  (.cons (.ret (.comp [8] (.call 13 (.cons (.var 0) (.cons (.var 3) .nil))) (.nm 8) (.rng (.cons (.call 13 (.cons (.var 0) (.cons (.cst (.int 6)) .nil))) .nil)) .tyes))
  .nil))))))
theorem ir22_eq : mapS (cS 40 cc22) ((defBody (top 36))) = ir22 := by kernel_rfl
/-! _law_both_right -/
def N23 : List Str := ["masks", "many", "k", "handed", "most", "least"]
def ps23 : List Str := ["masks", "many"]
theorem sc23 : FnScope N23 ps23 (defScope (top 37)) := ⟨rfl, rfl, rfl, by decide +kernel, rfl, by decide +kernel, by decide +kernel⟩
def cc23 : CC := ccOf N23 37 [("faces_of", 6), ("supports_of", 7), ("_law_same", 16), ("_law_faces_due", 19), ("_law_supports_due", 20), ("_law_edge", 21)]
def ir23 : VSs := (.cons (.forS (.nm 2) (.rng (.cons (.cst (.int 2)) .nil)) (.cons (.asg (.nm 3) (.blt .list (.cons (.var 0) .nil)))
  (.cons (.asg (.nm 4) (.call 6 (.cons (.var 3) (.cons (.var 1) .nil))))
  (.cons (.asg (.nm 5) (.call 7 (.cons (.var 3) (.cons (.var 1) .nil))))
  (.cons (.ifS (.tor (.tnot (.tv (.call 16 (.cons (.var 3) (.cons (.var 0) .nil))))) (.tnot (.tv (.call 16 (.cons (.var 4) (.cons (.call 19 (.cons (.var 0) (.cons (.var 1) .nil))) .nil)))))) (.cons (.ret (.cst (.bl false)))
  .nil) .nil)
  (.cons (.ifS (.tnot (.tv (.call 16 (.cons (.var 5) (.cons (.call 20 (.cons (.var 0) (.cons (.var 1) .nil))) .nil))))) (.cons (.ret (.cst (.bl false)))
  .nil) .nil)
  (.cons (.ifS (.tnot (.tv (.call 16 (.cons (.call 7 (.cons (.blt .list (.cons (.var 4) .nil)) (.cons (.var 1) .nil))) (.cons (.call 21 (.cons (.var 0) (.cons (.cst (.int 0)) .nil))) .nil))))) (.cons (.ret (.cst (.bl false)))
  .nil) .nil)
  (.cons (.ifS (.tnot (.tv (.call 16 (.cons (.call 6 (.cons (.blt .list (.cons (.var 5) .nil)) (.cons (.var 1) .nil))) (.cons (.call 21 (.cons (.var 0) (.cons (.cst (.int 1)) .nil))) .nil))))) (.cons (.ret (.cst (.bl false)))
  .nil) .nil)
  (.cons (.ex (.met .append (.var 4) (.cons (.cst (.int 0)) .nil)))
  (.cons (.ex (.met .insert (.var 5) (.cons (.cst (.int 0)) (.cons (.cst (.int 1)) .nil))))
  .nil))))))))))
  (.cons (.ret (.cst (.bl true)))
  .nil))
theorem ir23_eq : mapS (cS 40 cc23) ((defBody (top 37))) = ir23 := by kernel_rfl
/-! _law_refused -/
def N24 : List Str := ["masks", "many", "way", "e"]
def ps24 : List Str := ["masks", "many", "way"]
theorem sc24 : FnScope N24 ps24 (defScope (top 38)) := ⟨rfl, rfl, rfl, by decide +kernel, rfl, by decide +kernel, by decide +kernel⟩
def cc24 : CC := ccOf N24 38 [("faces_of", 6), ("supports_of", 7)]
def ir24 : VSs := (.cons (.tryA 3 [(0, true)] (.cons (.ifS (.tv (.cmp .Eq (.var 2) (.cst (.int 0)))) (.cons (.ex (.call 6 (.cons (.blt .list (.cons (.var 0) .nil)) (.cons (.var 1) .nil))))
  .nil) (.cons (.ex (.call 7 (.cons (.blt .list (.cons (.var 0) .nil)) (.cons (.var 1) .nil))))
  .nil))
  .nil) (.cons (.ret (.cmp .Eq (.call 17 (.cons (.var 3) .nil)) (.tup (.cons (.cst (.str "TooMany")) (.cons (.cst (.str "atoms")) (.cons (.cst (.int 5)) .nil))))))
  .nil))
  (.cons (.ret (.cst (.bl false)))
  .nil))
theorem ir24_eq : mapS (cS 40 cc24) ((defBody (top 38))) = ir24 := by kernel_rfl
/-! law -/
def N25 : List Str := ["script", "store", "many", "masks", "size", "others", "far", "wide"]
def ps25 : List Str := ["script"]
theorem sc25 : FnScope N25 ps25 (defScope (top 39)) := ⟨rfl, rfl, rfl, by decide +kernel, rfl, by decide +kernel, by decide +kernel⟩
def cc25 : CC := ccOf N25 39 [("_law_pick", 11), ("_law_drawn", 22), ("_law_both_right", 23), ("_law_refused", 24)]
def ir25 : VSs := (.cons (.asg (.nm 2) (.call 11 (.cons (.var 1) (.cons (.lst (.cons (.cst (.int 0)) (.cons (.cst (.int 1)) (.cons (.cst (.int 2)) (.cons (.cst (.int 2)) (.cons (.cst (.int 3)) (.cons (.cst (.int 3)) (.cons (.cst (.int 4)) (.cons (.cst (.int 4)) (.cons (.cst (.int 5)) (.cons (.cst (.int 5)) (.cons (.cst (.int 5)) (.cons (.cst (.int 5)) .nil))))))))))))) .nil))))
  (.cons (.asg (.nm 3) (.call 22 (.cons (.var 1) (.cons (.var 2) .nil))))
  (.cons (.asg (.nm 4) (.call 11 (.cons (.var 1) (.cons (.lst (.cons (.cst (.int 1)) (.cons (.cst (.int 4)) (.cons (.cst (.int 5)) .nil)))) .nil))))
  (.cons (.asg (.nm 5) (.call 22 (.cons (.var 1) (.cons (.var 4) .nil))))
  (.cons (.asg (.nm 6) (.bin .Add (.cst (.int 6)) (.call 11 (.cons (.var 1) (.cons (.lst (.cons (.cst (.int 0)) (.cons (.cst (.int 0)) (.cons (.cst (.int 1)) (.cons (.cst (.int 58)) (.cons (.bin .Pow (.cst (.int 10)) (.cst (.int 20))) .nil)))))) .nil)))))
  (.cons (.asg (.nm 7) (.call 11 (.cons (.var 1) (.cons (.lst (.cons (.lst .nil) (.cons (.lst (.cons (.cst (.int 0)) .nil)) (.cons (.lst (.cons (.cst (.int 63)) (.cons (.cst (.int 1)) .nil))) (.cons (.lst (.cons (.cst (.int 32)) (.cons (.cst (.int 5)) (.cons (.cst (.int 5)) .nil)))) .nil))))) .nil))))
  (.cons (.ifS (.tor (.tnot (.tv (.call 23 (.cons (.var 3) (.cons (.var 2) .nil))))) (.tnot (.tv (.call 23 (.cons (.var 5) (.cons (.var 4) .nil)))))) (.cons (.ret (.cst (.bl false)))
  .nil) .nil)
  (.cons (.ifS (.tor (.tnot (.tv (.call 24 (.cons (.var 7) (.cons (.var 6) (.cons (.cst (.int 0)) .nil)))))) (.tnot (.tv (.call 24 (.cons (.var 7) (.cons (.var 6) (.cons (.cst (.int 1)) .nil))))))) (.cons (.ret (.cst (.bl false)))
  .nil) .nil)
  (.cons (.ret (.andE (.call 23 (.cons (.var 3) (.cons (.var 2) .nil))) (.andE (.call 23 (.cons (.lst .nil) (.cons (.var 2) .nil))) (.call 23 (.cons (.lst (.cons (.cst (.int 0)) .nil)) (.cons (.var 4) .nil))))))
  .nil)))))))))
theorem ir25_eq : mapS (cS 40 cc25) ((defBody (top 39)).tail) = ir25 := by kernel_rfl
/-! _law_fault -/
def cc17X : CC := ccX N17 31 []
def ir17X : VSs := (.cons (.asg (.nm 1) (.lst .nil))
  (.cons (.ifS (.tv (.isin (.var 0) (.own [(0, false)]))) (.cons (.ex (.met .append (.var 1) (.cons (.tup (.cons (.cst (.str "TextError")) (.cons (.fld (.var 0) []) .nil))) .nil)))
  .nil) .nil)
  (.cons (.ifS (.tv (.isin (.var 0) (.own [(0, false)]))) (.cons (.ex (.met .append (.var 1) (.cons (.tup (.cons (.cst (.str "UnknownName")) (.cons (.fld (.var 0) []) .nil))) .nil)))
  .nil) .nil)
  (.cons (.ifS (.tv (.isin (.var 0) (.own [(0, false)]))) (.cons (.ex (.met .append (.var 1) (.cons (.tup (.cons (.cst (.str "Taken")) (.cons (.fld (.var 0) []) .nil))) .nil)))
  .nil) .nil)
  (.cons (.ifS (.tv (.isin (.var 0) (.own [(0, false)]))) (.cons (.ex (.met .append (.var 1) (.cons (.tup (.cons (.cst (.str "WrongShape")) (.cons (.fld (.var 0) []) .nil))) .nil)))
  .nil) .nil)
  (.cons (.ifS (.tv (.isin (.var 0) (.own [(0, false)]))) (.cons (.ex (.met .append (.var 1) (.cons (.tup (.cons (.cst (.str "BadPlace")) (.cons (.fld (.var 0) []) .nil))) .nil)))
  .nil) .nil)
  (.cons (.ifS (.tv (.isin (.var 0) (.own [(0, true)]))) (.cons (.ex (.met .append (.var 1) (.cons (.tup (.cons (.cst (.str "TooMany")) (.cons (.fld (.var 0) [(0, 0)]) (.cons (.fld (.var 0) [(0, 1)]) .nil)))) .nil)))
  .nil) .nil)
  (.cons (.ifS (.tv (.isin (.var 0) (.own [(0, false)]))) (.cons (.ex (.met .append (.var 1) (.cons (.tup (.cons (.cst (.str "BadPlan")) (.cons (.fld (.var 0) []) (.cons (.fld (.var 0) []) .nil)))) .nil)))
  .nil) .nil)
  (.cons (.ifS (.tv (.isin (.var 0) (.own [(0, false)]))) (.cons (.ex (.met .append (.var 1) (.cons (.tup (.cons (.cst (.str "BadCode")) (.cons (.fld (.var 0) []) .nil))) .nil)))
  .nil) .nil)
  (.cons (.ifS (.tv (.isin (.var 0) (.own [(0, false)]))) (.cons (.ex (.met .append (.var 1) (.cons (.tup (.cons (.cst (.str "BadPaper")) (.cons (.fld (.var 0) []) .nil))) .nil)))
  .nil) .nil)
  (.cons (.ifS (.tor (.tv (.cmp .NotEq (.blt .len (.cons (.var 1) .nil)) (.cst (.int 1)))) (.tnot (.tv (.isin (.var 0) (.own [(0, true)]))))) (.cons (.ret (.tup (.cons (.cst (.str "none")) .nil)))
  .nil) .nil)
  (.cons (.ret (.ix (.var 1) (.cst (.int 0))))
  .nil))))))))))))
theorem ir17X_eq : mapS (cS 40 cc17X) ((defBody (top 31))) = ir17X := by kernel_rfl

/-! ### specs of k20 -/
def bw (s m : Int) : Bool := decide (Builtin.bitAnd s m = s)
def avoidsB (ss : List Int) (m : Int) : Bool := ss.all fun one => !bw one m
def leastL (ms : List Int) : List Int := ms.filter fun m => !(ms.any fun one => decide (one ≠ m) && bw one m)
def greatL (ms : List Int) : List Int := ms.filter fun m => !(ms.any fun one => decide (one ≠ m) && bw m one)
def rg (k : Int) : List Int := (List.range (2 ^ k.toNat)).map fun (i : Nat) => (i : Int)
def facesL (ms : List Int) (k : Int) : List Int := greatL ((rg k).filter (avoidsB ms))
def suppsL (ms : List Int) (k : Int) : List Int := leastL ((rg k).filter fun m => !(ms.any fun f => bw m f))
def small (k : Int) : Prop := 0 ≤ k ∧ k ≤ 5
def inR (k : Int) (ms : List Int) : Prop := ∀ m ∈ ms, 0 ≤ m ∧ m < 2 ^ k.toNat
def edgeL (ms : List Int) (way : Int) (us : List Int) : List Int := us.filter fun m => if way = 0 then !(ms.any fun n => decide (n ≠ m) && bw n m) else !(ms.any fun n => decide (n ≠ m) && bw m n)
def sp0 : VSp := .det (α := Int × Int) (fun x => [.int x.1, .int x.2]) (fun _ => True) false fun x => .bl (bw x.1 x.2)
def sp1 : VSp := .det (α := Int × List Int) (fun x => [.int x.1, ilst x.2]) (fun _ => True) false fun x => .bl (avoidsB x.2 x.1)
def sp2 : VSp := .det (α := List Int) (fun x => [ilst x]) (fun x => x.length ≤ 1000) true fun x => ilst (leastL x)
def sp3 : VSp := .det (α := List Int) (fun x => [ilst x]) (fun x => x.length ≤ 1000) true fun x => ilst (greatL x)
def sp4 : VSp := .det (α := List Int × Int) (fun x => [ilst x.1, .int x.2]) (fun x => small x.2) true fun x => ilst ((rg x.2).filter (avoidsB x.1))
def sp5 : VSp := ⟨Int, fun k => [.int k], fun _ => True, fun k o d => k ≤ 5 ∧ o = false ∧ d = .non, fun k e => 5 < k ∧ e = ⟨0, [.str "atoms", .int 5]⟩⟩
def sp6 : VSp := ⟨List Int × Int, fun x => [ilst x.1, .int x.2], fun x => 0 ≤ x.2, fun x o d => x.2 ≤ 5 ∧ o = true ∧ d = ilst (facesL x.1 x.2), fun x e => 5 < x.2 ∧ e = ⟨0, [.str "atoms", .int 5]⟩⟩
def sp7 : VSp := ⟨List Int × Int, fun x => [ilst x.1, .int x.2], fun x => 0 ≤ x.2 ∧ x.1.length ≤ 1000, fun x o d => x.2 ≤ 5 ∧ o = true ∧ d = ilst (suppsL x.1 x.2), fun x e => 5 < x.2 ∧ e = ⟨0, [.str "atoms", .int 5]⟩⟩
def sp11 : VSp := spPick
def sp12 : VSp := spShuf
def sp13 : VSp := spNat
def sp14 : VSp := spUniq
def sp15 : VSp := spKind
def sp16 : VSp := spSame
def sp17 : VSp := .det (α := D × D) (fun x => [.exn 0 [x.1, x.2]]) (fun _ => True) false fun x => .tup [.str "TooMany", x.1, x.2]
def sp18 : VSp := .det (α := Int × Int) (fun x => [.int x.1, .int x.2]) (fun _ => True) false fun x => .bl (bw x.1 x.2)
def sp19 : VSp := .det (α := List Int × Int) (fun x => [ilst x.1, .int x.2]) (fun x => small x.2 ∧ x.1.length ≤ 1000) true fun x => ilst (facesL x.1 x.2)
def sp20 : VSp := .det (α := List Int × Int) (fun x => [ilst x.1, .int x.2]) (fun x => small x.2 ∧ x.1.length ≤ 1000) true fun x => ilst (suppsL x.1 x.2)
def sp21 : VSp := ⟨List Int × Int, fun x => [ilst x.1, .int x.2], fun x => x.1.length ≤ 1000 ∧ (x.2 = 0 ∨ x.2 = 1), fun x o d => o = true ∧ ∃ us : List Int, us.Pairwise (· < ·) ∧ (∀ m, m ∈ us ↔ m ∈ x.1) ∧ d = ilst (edgeL x.1 x.2 us), fun _ _ => False⟩
def sp22 : VSp := ⟨Int, fun k => [.tok, .int k], fun k => small k, fun k o d => o = true ∧ ∃ ms, d = ilst ms ∧ ms.length ≤ 64 ∧ inR k ms, fun _ _ => False⟩
def sp23 : VSp := .det (α := List Int × Int) (fun x => [ilst x.1, .int x.2]) (fun x => small x.2 ∧ x.1.length ≤ 64 ∧ inR x.2 x.1) false fun _ => .bl true
def sp24 : VSp := .det (α := List Int × Int × Int) (fun x => [ilst x.1, .int x.2.1, .int x.2.2]) (fun x => 5 < x.2.1 ∧ x.1.length ≤ 64) false fun _ => .bl true
def spNo : VSp := ⟨Empty, fun _ => [], fun _ => False, fun _ _ _ => False, fun _ _ => False⟩
def Γ : Nat → VSp := fun n => [sp0, sp1, sp2, sp3, sp4, sp5, sp6, sp7, spNo, spNo, vTake, sp11, sp12, sp13, sp14, sp15, sp16, sp17, sp18, sp19, sp20, sp21, sp22, sp23, sp24].getD n spNo
abbrev VAL (k : Nat) (ir : VSs) (N : List Str) : Prop := ∀ x : (Γ k).α, (Γ k).pre x → wSs Γ ir (startV N ((Γ k).arg x)) { nx := fun _ => (Γ k).post x false .non, rt := (Γ k).post x } (fun e _ => (Γ k).exc x e)

theorem val0 : VAL 0 ir0 N0 := by
  show ∀ x : Int × Int, True → _
  rintro ⟨s, l⟩ -
  exact ⟨rfl, rfl⟩
theorem call0 {s l : Int} {K : Bool → D → Prop} {E : Exc → Prop} (h : K false (.bl (bw s l))) : (Γ 0).run [.int s, .int l] K E := run_det (α := Int × Int) (s, l) rfl trivial h
theorem val5 : VAL 5 ir5 N5 := by
  show ∀ x : Int, True → _
  rintro k -
  show wSs Γ ir5 [.val (.int k)] _ _
  conv => whnf
  refine ⟨fun h => ?_, fun h => ?_⟩
  · exact ⟨⟨of_decide_eq_true h, rfl⟩, rfl⟩
  · exact ⟨by have := of_decide_eq_false h; omega, rfl, rfl⟩
/-- any(one != mask and .. for one in masks) -/
theorem anyL {ms : List Int} {m : Int} {g : Int → Bool} : (boolsD (ms.map fun n => D.bl (decide (n ≠ m) && g n))) = some (ms.map fun n => decide (n ≠ m) && g n) := by
  induction ms with
  | nil => rfl
  | cons a r ih =>
    rw [List.map_cons, List.map_cons]
    unfold boolsD
    rw [ih] <;> rfl
theorem val2 : VAL 2 ir2 N2 := by
  show ∀ x : List Int, x.length ≤ 1000 → _
  rintro ms hl
  show wSs Γ ir2 [.val (ilst ms), .un, .un] _ _
  conv => whnf
  refine compL_fm (ρ := [.val (ilst ms), .un, .un]) (fun d => match d with | .int m => !(ms.any fun one => decide (one ≠ m) && bw one m) | _ => false) id (fun d => [.val (ilst ms), .val d, .un]) (fun d => rfl) _ _ (by rw [List.length_map]; show 0 + ms.length ≤ 1000000; omega) (fun d hd Ka Ks ha hs => ?_) ?_
  · obtain ⟨m, hm, rfl⟩ := List.mem_map.mp hd
    conv => whnf
    refine compL_fm (ρ := [.val (ilst ms), .val (.int m), .un]) (fun _ => true) (fun d => match d with | .int one => .bl (decide (one ≠ m) && bw one m) | _ => .non) (fun d => [.val (ilst ms), .val (.int m), .val d]) (fun d => rfl) _ _ (by rw [List.length_map]; show 0 + ms.length ≤ 1000000; omega) (fun d hd Ka' Ks' ha' hs' => ?_) ?_
    · obtain ⟨one, ho, rfl⟩ := List.mem_map.mp hd
      conv => whnf
      refine ⟨fun _ => ?_, fun h => by cases h⟩
      conv => whnf
      refine ⟨_, rfl, fun h => ?_, fun h => ?_⟩
      · conv => whnf
        refine call0 ?_
        have e : (!decide (one = m)) = true := h
        have := ha' rfl
        simp only [ne_eq, decide_not, e, Bool.true_and] at this
        exact this
      · have e : (!decide (one = m)) = false := h
        have := ha' rfl
        simp only [ne_eq, decide_not, e, Bool.false_and] at this
        exact this
    · rw [List.nil_append, List.filter_eq_self.mpr (fun _ _ => rfl), List.map_map]
      conv => whnf
      refine ⟨_, anyL (ms := ms) (m := m) (g := fun one => bw one m), ?_⟩
      rw [List.any_map]
      refine ⟨fun h => ?_, fun h => ?_⟩
      · exact ha h
      · exact hs h
  · conv => whnf
    exact ⟨rfl, by rw [List.nil_append, filter_map_int (g := fun m => !(ms.any fun one => decide (one ≠ m) && bw one m)) (fun m => rfl)] <;> rfl⟩
theorem val3 : VAL 3 ir3 N3 := by
  show ∀ x : List Int, x.length ≤ 1000 → _
  rintro ms hl
  show wSs Γ ir3 [.val (ilst ms), .un, .un] _ _
  conv => whnf
  refine compL_fm (ρ := [.val (ilst ms), .un, .un]) (fun d => match d with | .int m => !(ms.any fun one => decide (one ≠ m) && bw m one) | _ => false) id (fun d => [.val (ilst ms), .val d, .un]) (fun d => rfl) _ _ (by rw [List.length_map]; show 0 + ms.length ≤ 1000000; omega) (fun d hd Ka Ks ha hs => ?_) ?_
  · obtain ⟨m, hm, rfl⟩ := List.mem_map.mp hd
    conv => whnf
    refine compL_fm (ρ := [.val (ilst ms), .val (.int m), .un]) (fun _ => true) (fun d => match d with | .int one => .bl (decide (one ≠ m) && bw m one) | _ => .non) (fun d => [.val (ilst ms), .val (.int m), .val d]) (fun d => rfl) _ _ (by rw [List.length_map]; show 0 + ms.length ≤ 1000000; omega) (fun d hd Ka' Ks' ha' hs' => ?_) ?_
    · obtain ⟨one, ho, rfl⟩ := List.mem_map.mp hd
      conv => whnf
      refine ⟨fun _ => ?_, fun h => by cases h⟩
      conv => whnf
      refine ⟨_, rfl, fun h => ?_, fun h => ?_⟩
      · conv => whnf
        refine call0 ?_
        have e : (!decide (one = m)) = true := h
        have := ha' rfl
        simp only [ne_eq, decide_not, e, Bool.true_and] at this
        exact this
      · have e : (!decide (one = m)) = false := h
        have := ha' rfl
        simp only [ne_eq, decide_not, e, Bool.false_and] at this
        exact this
    · rw [List.nil_append, List.filter_eq_self.mpr (fun _ _ => rfl), List.map_map]
      conv => whnf
      refine ⟨_, anyL (ms := ms) (m := m) (g := fun one => bw m one), ?_⟩
      rw [List.any_map]
      refine ⟨fun h => ?_, fun h => ?_⟩
      · exact ha h
      · exact hs h
  · conv => whnf
    exact ⟨rfl, by rw [List.nil_append, filter_map_int (g := fun m => !(ms.any fun one => decide (one ≠ m) && bw m one)) (fun m => rfl)] <;> rfl⟩

theorem call1 {m : Int} {ss : List Int} {K : Bool → D → Prop} {E : Exc → Prop} (h : K false (.bl (avoidsB ss m))) : (Γ 1).run [.int m, ilst ss] K E := run_det (α := Int × List Int) (m, ss) rfl trivial h
theorem val1 : VAL 1 ir1 N1 := by
  show ∀ x : Int × List Int, True → _
  rintro ⟨m, ss⟩ -
  show wSs Γ ir1 [.val (.int m), .val (ilst ss), .un] _ _
  conv => whnf
  refine forL_inv (fun ds ρ => ∃ (r : List Int) (s : Slot), ds = r.map .int ∧ ρ = [.val (.int m), .val (ilst ss), s] ∧ avoidsB ss m = avoidsB r m) (fun ρ h => ?_) (fun d ds ρ nx bk h hn hb => ?_) _ _ ⟨ss, .un, rfl, rfl, rfl⟩
  · obtain ⟨r, s, h1, rfl, h2⟩ := h
    conv => whnf
    refine ⟨rfl, ?_⟩
    cases r with
    | nil => show D.bl true = .bl (avoidsB ss m); rw [h2] <;> rfl
    | cons a r => cases h1
  · obtain ⟨r, s, h1, rfl, h2⟩ := h
    cases r with
    | nil => cases h1
    | cons a r =>
      cases h1
      conv => whnf
      refine call0 ?_
      conv => whnf
      refine ⟨fun h => ⟨rfl, ?_⟩, fun h => ?_⟩
      · show D.bl false = .bl (avoidsB ss m)
        rw [h2]
        unfold avoidsB
        rw [List.all_cons, h] <;> rfl
      · refine hn _ ⟨r, .val (.int a), rfl, rfl, ?_⟩
        rw [h2]
        unfold avoidsB
        rw [List.all_cons, h] <;> rfl
theorem rg_eq {k : Int} (h : small k) : rngD 0 (1 * 2 ^ k.toNat) = (rg k).map .int := by
  unfold rngD rg
  rw [List.map_map]
  have e : ((1 : Int) * 2 ^ k.toNat - 0).toNat = 2 ^ k.toNat := by
    rw [Int.one_mul, Int.sub_zero]
    have : ((2 : Int) ^ k.toNat) = ((2 ^ k.toNat : Nat) : Int) := by simp
    rw [this, Int.toNat_natCast]
  rw [e]
  refine List.map_congr_left fun i _ => ?_
  show D.int (0 + (i : Nat)) = .int (i : Nat)
  rw [Int.zero_add]
theorem pow_small {k : Int} (h : small k) : (2 : Int) ^ k.toNat ≤ 32 ∧ 1 ≤ (2 : Int) ^ k.toNat ∧ 2 ^ k.toNat ≤ 32 := by
  obtain ⟨h0, h5⟩ := h
  have : k.toNat ≤ 5 := by omega
  have e : ∀ n, n ≤ 5 → (2 : Int) ^ n ≤ 32 ∧ 1 ≤ (2 : Int) ^ n ∧ 2 ^ n ≤ 32 := by decide
  exact e _ this
theorem rg_len {k : Int} (h : small k) : (rg k).length ≤ 32 := by
  unfold rg
  rw [List.length_map, List.length_range]
  exact (pow_small h).2.2
theorem shl_ok {k : Int} (h : small k) : 0 ≤ k ∧ (Builtin.Int.intBits 1 : Int) + k ≤ 2 ^ 27 := by
  obtain ⟨h0, h5⟩ := h
  have : Builtin.Int.intBits 1 = 1 := by decide
  rw [this]
  omega
theorem rng_ok {k : Int} (h : small k) : -(2 ^ 62) ≤ (1 : Int) * 2 ^ k.toNat ∧ (1 : Int) * 2 ^ k.toNat < 2 ^ 62 := by
  have := pow_small h
  omega
theorem val4 : VAL 4 ir4 N4 := by
  show ∀ x : List Int × Int, small x.2 → _
  rintro ⟨ss, k⟩ hk
  show wSs Γ ir4 [.val (ilst ss), .val (.int k), .un] _ _
  conv => whnf
  refine ⟨shl_ok hk, ?_⟩
  conv => whnf
  refine ⟨rng_ok hk, ?_⟩
  conv => whnf
  rw [rg_eq hk]
  refine compL_ints (ρ := [.val (ilst ss), .val (.int k), .un]) (avoidsB ss) (fun m => [.val (ilst ss), .val (.int k), .val (.int m)]) (fun m => rfl) _ _ (by have := rg_len hk; show 0 + _ ≤ 1000000; omega) (fun m hm Ka Ks ha hs => ?_) ?_
  · conv => whnf
    refine call1 ?_
    conv => whnf
    exact ⟨ha, hs⟩
  · exact ⟨rfl, rfl⟩
theorem call2 {ms : List Int} {K : Bool → D → Prop} {E : Exc → Prop} (hl : ms.length ≤ 1000) (h : K true (ilst (leastL ms))) : (Γ 2).run [ilst ms] K E := run_det (α := List Int) ms rfl hl h
theorem call3 {ms : List Int} {K : Bool → D → Prop} {E : Exc → Prop} (hl : ms.length ≤ 1000) (h : K true (ilst (greatL ms))) : (Γ 3).run [ilst ms] K E := run_det (α := List Int) ms rfl hl h
theorem call4 {ss : List Int} {k : Int} {K : Bool → D → Prop} {E : Exc → Prop} (hk : small k) (h : K true (ilst ((rg k).filter (avoidsB ss)))) : (Γ 4).run [ilst ss, .int k] K E := run_det (α := List Int × Int) (ss, k) rfl hk h
theorem call5 {k : Int} {K : Bool → D → Prop} {E : Exc → Prop} (h1 : k ≤ 5 → K false .non) (h2 : 5 < k → E ⟨0, [.str "atoms", .int 5]⟩) : (Γ 5).run [.int k] K E :=
  run_of (s := sp5) k rfl trivial (fun o d h => by obtain ⟨h, rfl, rfl⟩ := h; exact h1 h) (fun e h => by obtain ⟨h, rfl⟩ := h; exact h2 h)
theorem flen {p : Int → Bool} {k : Int} (hk : small k) : ((rg k).filter p).length ≤ 1000 := by
  have := List.length_filter_le p (rg k)
  have := rg_len hk
  omega
theorem boolsL {ms : List Int} {g : Int → Bool} : boolsD (ms.map fun n => D.bl (g n)) = some (ms.map g) := by
  induction ms with
  | nil => rfl
  | cons a r ih =>
    rw [List.map_cons, List.map_cons]
    unfold boolsD
    rw [ih] <;> rfl
theorem val6 : VAL 6 ir6 N6 := by
  show ∀ x : List Int × Int, 0 ≤ x.2 → _
  rintro ⟨ss, k⟩ hk
  have hk : 0 ≤ k := hk
  show wSs Γ ir6 [.val (ilst ss), .val (.int k)] _ _
  conv => whnf
  refine call5 (fun h5 => ?_) (fun h5 => ⟨h5, rfl⟩)
  conv => whnf
  refine call4 ⟨hk, h5⟩ ?_
  conv => whnf
  refine call3 (flen ⟨hk, h5⟩) ?_
  exact ⟨h5, rfl, rfl⟩
theorem val7 : VAL 7 ir7 N7 := by
  show ∀ x : List Int × Int, 0 ≤ x.2 ∧ x.1.length ≤ 1000 → _
  rintro ⟨ms, k⟩ ⟨hk, hl⟩
  have hk : 0 ≤ k := hk
  have hl : ms.length ≤ 1000 := hl
  show wSs Γ ir7 [.val (ilst ms), .val (.int k), .un, .un, .un] _ _
  conv => whnf
  refine call5 (fun h5 => ?_) (fun h5 => ⟨h5, rfl⟩)
  have hs : small k := ⟨hk, h5⟩
  conv => whnf
  refine ⟨shl_ok hs, ?_⟩
  conv => whnf
  refine ⟨rng_ok hs, ?_⟩
  conv => whnf
  rw [rg_eq hs]
  refine compL_ints (ρ := [.val (ilst ms), .val (.int k), .un, .un, .un]) (fun m => !(ms.any fun f => bw m f)) (fun m => [.val (ilst ms), .val (.int k), .val (.int m), .un, .un]) (fun m => rfl) _ _ (by have := rg_len hs; show 0 + _ ≤ 1000000; omega) (fun m hm Ka Ks ha hn => ?_) ?_
  · conv => whnf
    refine compL_map (fun f => .bl (bw m f)) (ρ := [.val (ilst ms), .val (.int k), .val (.int m), .un, .un]) (fun f => [.val (ilst ms), .val (.int k), .val (.int m), .val (.int f), .un]) (fun f => rfl) _ _ (by show 0 + ms.length ≤ 1000000; omega) (fun f hf Ka' Ks' ha' => ?_) ?_
    · conv => whnf
      refine ⟨fun _ => ?_, fun h => by cases h⟩
      conv => whnf
      exact call0 ha'
    · conv => whnf
      refine ⟨_, boolsL (g := fun f => bw m f), ?_⟩
      rw [List.any_map]
      exact ⟨fun h => ha h, fun h => hn h⟩
  · conv => whnf
    refine ⟨.inl rfl, ?_⟩
    conv => whnf
    refine call2 (flen hs) ?_
    exact ⟨h5, rfl, rfl⟩
theorem call6 {ss : List Int} {k : Int} {K : Bool → D → Prop} {E : Exc → Prop} (h0 : 0 ≤ k) (h1 : k ≤ 5 → K true (ilst (facesL ss k))) (h2 : 5 < k → E ⟨0, [.str "atoms", .int 5]⟩) : (Γ 6).run [ilst ss, .int k] K E :=
  run_of (s := sp6) (ss, k) rfl h0 (fun o d h => by obtain ⟨h, rfl, rfl⟩ := h; exact h1 h) (fun e h => by obtain ⟨h, rfl⟩ := h; exact h2 h)
theorem call7 {ss : List Int} {k : Int} {K : Bool → D → Prop} {E : Exc → Prop} (h0 : 0 ≤ k) (hl : ss.length ≤ 1000) (h1 : k ≤ 5 → K true (ilst (suppsL ss k))) (h2 : 5 < k → E ⟨0, [.str "atoms", .int 5]⟩) : (Γ 7).run [ilst ss, .int k] K E :=
  run_of (s := sp7) (ss, k) rfl ⟨h0, hl⟩ (fun o d h => by obtain ⟨h, rfl, rfl⟩ := h; exact h1 h) (fun e h => by obtain ⟨h, rfl⟩ := h; exact h2 h)
theorem val18 : VAL 18 ir18 N18 := by
  show ∀ x : Int × Int, True → _
  rintro ⟨s, l⟩ -
  exact ⟨rfl, rfl⟩
theorem call18 {s l : Int} {K : Bool → D → Prop} {E : Exc → Prop} (h : K false (.bl (bw s l))) : (Γ 18).run [.int s, .int l] K E := run_det (α := Int × Int) (s, l) rfl trivial h
theorem len0 {p : Int → Bool} {ms : List Int} : decide (((ms.filter p).length : Int) = 0) = !(ms.any p) := by
  cases h : ms.any p with
  | true =>
    obtain ⟨x, hx, hp⟩ := List.any_eq_true.mp h
    have : 0 < (ms.filter p).length := List.length_pos_of_mem (List.mem_filter.mpr ⟨hx, hp⟩)
    exact decide_eq_false (by omega)
  | false =>
    have e : ms.filter p = [] := by
      rw [List.filter_eq_nil_iff]
      intro x hx hp
      have : ms.any p = true := List.any_eq_true.mpr ⟨x, hx, hp⟩
      rw [h] at this
      cases this
    rw [e] <;> rfl
theorem faces_fs {ms fs : List Int} {k : Int} (h : (rg k).filter (fun m => !(ms.any fun s => bw s m)) = fs) : greatL fs = facesL ms k := by
  subst h
  unfold facesL
  congr 1
  refine List.filter_congr fun m _ => ?_
  unfold avoidsB
  rw [List.not_any_eq_all_not]
theorem supps_fs {ms fs : List Int} {k : Int} (h : (rg k).filter (fun m => !(ms.any fun s => bw m s)) = fs) : leastL fs = suppsL ms k := by
  subst h
  rfl
theorem val19 : VAL 19 ir19 N19 := by
  show ∀ x : List Int × Int, small x.2 ∧ x.1.length ≤ 1000 → _
  rintro ⟨ms, k⟩ ⟨hs, hl⟩
  have hs : small k := hs
  have hl : ms.length ≤ 1000 := hl
  show wSs Γ ir19 [.val (ilst ms), .val (.int k), .un, .un, .un, .un] _ _
  conv => whnf
  refine ⟨shl_ok hs, ?_⟩
  conv => whnf
  refine ⟨rng_ok hs, ?_⟩
  conv => whnf
  rw [rg_eq hs]
  refine compL_ints (ρ := [.val (ilst ms), .val (.int k), .un, .un, .un, .un]) (fun m => !(ms.any fun s => bw s m)) (fun m => [.val (ilst ms), .val (.int k), .val (.int m), .un, .un, .un]) (fun m => rfl) _ _ (by have := rg_len hs; show 0 + _ ≤ 1000000; omega) (fun m hm Ka Ks ha hn => ?_) ?_
  · conv => whnf
    refine compL_ints (ρ := [.val (ilst ms), .val (.int k), .val (.int m), .un, .un, .un]) (fun s => bw s m) (fun s => [.val (ilst ms), .val (.int k), .val (.int m), .val (.int s), .un, .un]) (fun m => rfl) _ _ (by show 0 + ms.length ≤ 1000000; omega) (fun s hs' Ka' Ks' ha' hn' => ?_) ?_
    · conv => whnf
      refine call18 ?_
      conv => whnf
      exact ⟨ha', hn'⟩
    · conv => whnf
      rw [List.nil_append, List.length_map, len0]
      exact ⟨ha, hn⟩
  · generalize hfs : (rg k).filter (fun m => !(ms.any fun s => bw s m)) = fs
    have hfl : fs.length ≤ 1000 := by rw [← hfs]; exact flen hs
    conv => whnf
    refine compL_ints (ρ := [.val (ilst ms), .val (.int k), .un, .un, .val (ilst fs), .un]) (fun m => !(fs.any fun n => decide (n ≠ m) && bw m n)) (fun m => [.val (ilst ms), .val (.int k), .val (.int m), .un, .val (ilst fs), .un]) (fun m => rfl) _ _ (by show 0 + fs.length ≤ 1000000; omega) (fun m hm Ka Ks ha hn => ?_) ?_
    · conv => whnf
      refine compL_ints (ρ := [.val (ilst ms), .val (.int k), .val (.int m), .un, .val (ilst fs), .un]) (fun n => decide (n ≠ m) && bw m n) (fun n => [.val (ilst ms), .val (.int k), .val (.int m), .un, .val (ilst fs), .val (.int n)]) (fun m => rfl) _ _ (by show 0 + fs.length ≤ 1000000; omega) (fun n hn' Ka' Ks' ha' hn'' => ?_) ?_
      · conv => whnf
        refine ⟨fun h => ?_, fun h => ?_⟩
        · have h : (!decide (n = m)) = true := h
          simp only [ne_eq, decide_not, h, Bool.true_and] at ha' hn''
          conv => whnf
          refine call18 ?_
          conv => whnf
          exact ⟨ha', hn''⟩
        · have h : (!decide (n = m)) = false := h
          simp only [ne_eq, decide_not, h, Bool.false_and] at ha' hn''
          exact ⟨(fun h => by cases h), fun _ => hn'' trivial⟩
      · conv => whnf
        rw [List.nil_append, List.length_map, len0]
        exact ⟨ha, hn⟩
    · refine ⟨rfl, ?_⟩
      rw [List.nil_append]
      show ilst _ = ilst (facesL ms k)
      rw [← faces_fs hfs] <;> rfl
theorem val20 : VAL 20 ir20 N20 := by
  show ∀ x : List Int × Int, small x.2 ∧ x.1.length ≤ 1000 → _
  rintro ⟨ms, k⟩ ⟨hs, hl⟩
  have hs : small k := hs
  have hl : ms.length ≤ 1000 := hl
  show wSs Γ ir20 [.val (ilst ms), .val (.int k), .un, .un, .un, .un] _ _
  conv => whnf
  refine ⟨shl_ok hs, ?_⟩
  conv => whnf
  refine ⟨rng_ok hs, ?_⟩
  conv => whnf
  rw [rg_eq hs]
  refine compL_ints (ρ := [.val (ilst ms), .val (.int k), .un, .un, .un, .un]) (fun m => !(ms.any fun s => bw m s)) (fun m => [.val (ilst ms), .val (.int k), .val (.int m), .un, .un, .un]) (fun m => rfl) _ _ (by have := rg_len hs; show 0 + _ ≤ 1000000; omega) (fun m hm Ka Ks ha hn => ?_) ?_
  · conv => whnf
    refine compL_ints (ρ := [.val (ilst ms), .val (.int k), .val (.int m), .un, .un, .un]) (fun s => bw m s) (fun s => [.val (ilst ms), .val (.int k), .val (.int m), .val (.int s), .un, .un]) (fun m => rfl) _ _ (by show 0 + ms.length ≤ 1000000; omega) (fun s hs' Ka' Ks' ha' hn' => ?_) ?_
    · conv => whnf
      refine call18 ?_
      conv => whnf
      exact ⟨ha', hn'⟩
    · conv => whnf
      rw [List.nil_append, List.length_map, len0]
      exact ⟨ha, hn⟩
  · generalize hfs : (rg k).filter (fun m => !(ms.any fun s => bw m s)) = fs
    have hfl : fs.length ≤ 1000 := by rw [← hfs]; exact flen hs
    conv => whnf
    refine compL_ints (ρ := [.val (ilst ms), .val (.int k), .un, .un, .val (ilst fs), .un]) (fun m => !(fs.any fun n => decide (n ≠ m) && bw n m)) (fun m => [.val (ilst ms), .val (.int k), .val (.int m), .un, .val (ilst fs), .un]) (fun m => rfl) _ _ (by show 0 + fs.length ≤ 1000000; omega) (fun m hm Ka Ks ha hn => ?_) ?_
    · conv => whnf
      refine compL_ints (ρ := [.val (ilst ms), .val (.int k), .val (.int m), .un, .val (ilst fs), .un]) (fun n => decide (n ≠ m) && bw n m) (fun n => [.val (ilst ms), .val (.int k), .val (.int m), .un, .val (ilst fs), .val (.int n)]) (fun m => rfl) _ _ (by show 0 + fs.length ≤ 1000000; omega) (fun n hn' Ka' Ks' ha' hn'' => ?_) ?_
      · conv => whnf
        refine ⟨fun h => ?_, fun h => ?_⟩
        · have h : (!decide (n = m)) = true := h
          simp only [ne_eq, decide_not, h, Bool.true_and] at ha' hn''
          conv => whnf
          refine call18 ?_
          conv => whnf
          exact ⟨ha', hn''⟩
        · have h : (!decide (n = m)) = false := h
          simp only [ne_eq, decide_not, h, Bool.false_and] at ha' hn''
          exact ⟨(fun h => by cases h), fun _ => hn'' trivial⟩
      · conv => whnf
        rw [List.nil_append, List.length_map, len0]
        exact ⟨ha, hn⟩
    · refine ⟨rfl, ?_⟩
      rw [List.nil_append]
      show ilst _ = ilst (suppsL ms k)
      rw [← supps_fs hfs] <;> rfl

theorem val11 : VAL 11 ir11 N11 := val_pick (Γ := Γ) (n := 10) rfl
theorem val12 : VAL 12 ir12 N12 := val_shuf (Γ := Γ) (n := 10) rfl
theorem val13 : VAL 13 ir13 N13 := val_nat (Γ := Γ) (n := 10) rfl
theorem val14 : VAL 14 ir14 N14 := val_uniq (Γ := Γ)
theorem val15 : VAL 15 ir15 N15 := val_kind (Γ := Γ)
theorem val16 : VAL 16 ir16 N16 := val_same (Γ := Γ) (n := 15) rfl
theorem val17X : VAL 17 ir17X N17 := by
  show ∀ x : D × D, True → _
  rintro ⟨a, b⟩ -
  show wSs Γ ir17X [.val (.exn 0 [a, b]), .un] _ _
  repeat
    conv => whnf
    refine ⟨_, rfl, fun h => absurd h (by decide), fun _ => ?_⟩
  conv => whnf
  refine ⟨true, rfl, fun _ => ?_, fun h => absurd h (by decide)⟩
  conv => whnf
  refine ⟨0, a, rfl, rfl, ?_⟩
  conv => whnf
  refine ⟨1, b, rfl, rfl, ?_⟩
  conv => whnf
  refine ⟨.inl rfl, ?_⟩
  conv => whnf
  refine ⟨⟨rfl, by decide⟩, ?_⟩
  repeat
    conv => whnf
    refine ⟨_, rfl, fun h => absurd h (by decide), fun _ => ?_⟩
  conv => whnf
  refine ⟨.inl rfl, ?_⟩
  conv => whnf
  refine ⟨fun h => absurd h (by simp), fun _ => ?_⟩
  conv => whnf
  refine ⟨true, rfl, ?_⟩
  refine ⟨fun h => absurd h (by decide), fun _ => ?_⟩
  conv => whnf
  exact ⟨.inl rfl, _, rfl, rfl, rfl⟩
theorem call17 {a b : D} {K : Bool → D → Prop} {E : Exc → Prop} (h : K false (.tup [.str "TooMany", a, b])) : (Γ 17).run [.exn 0 [a, b]] K E := run_det (α := D × D) (a, b) rfl trivial h
theorem val24 : VAL 24 ir24 N24 := by
  show ∀ x : List Int × Int × Int, 5 < x.2.1 ∧ x.1.length ≤ 64 → _
  rintro ⟨ms, k, way⟩ ⟨h5, hl⟩
  have h5 : 5 < k := h5
  have hl : ms.length ≤ 64 := hl
  show wSs Γ ir24 [.val (ilst ms), .val (.int k), .val (.int way), .un] _ _
  conv => whnf
  refine ⟨fun h => ?_, fun h => ?_⟩
  · conv => whnf
    refine call6 (by omega) (fun h => absurd h (by omega)) (fun _ => ?_)
    refine ⟨true, rfl, fun _ => ?_, fun h => by cases h⟩
    conv => whnf
    refine call17 ?_
    conv => whnf
    refine ⟨_, _, rfl, rfl, by decide +kernel, by decide +kernel, ?_⟩
    refine ⟨rfl, rfl, congrArg D.bl (show PyData.eqv (.tuple [.str "TooMany", .str "atoms", .int 5]) (.tuple [.str "TooMany", .str "atoms", .int 5]) = true from by decide +kernel)⟩
  · conv => whnf
    refine call7 (by omega) (by omega) (fun h => absurd h (by omega)) (fun _ => ?_)
    refine ⟨true, rfl, fun _ => ?_, fun h => by cases h⟩
    conv => whnf
    refine call17 ?_
    conv => whnf
    refine ⟨_, _, rfl, rfl, by decide +kernel, by decide +kernel, ?_⟩
    refine ⟨rfl, rfl, congrArg D.bl (show PyData.eqv (.tuple [.str "TooMany", .str "atoms", .int 5]) (.tuple [.str "TooMany", .str "atoms", .int 5]) = true from by decide +kernel)⟩
theorem call24 {ms : List Int} {k way : Int} {K : Bool → D → Prop} {E : Exc → Prop} (h5 : 5 < k) (hl : ms.length ≤ 64) (h : K false (.bl true)) : (Γ 24).run [ilst ms, .int k, .int way] K E := run_det (α := List Int × Int × Int) (ms, k, way) rfl ⟨h5, hl⟩ h
theorem val22 : VAL 22 ir22 N22 := by
  show ∀ k : Int, small k → _
  rintro k hs
  show wSs Γ ir22 [.val .tok, .val (.int k), .un, .un, .un, .un, .un, .un, .un] _ _
  conv => whnf
  refine take_run (Γ := Γ) (n := 10) rfl (by decide) fun form f0 f1 => ?_
  conv => whnf
  refine ⟨shl_ok hs, ?_⟩
  have ps := pow_small hs
  generalize hP : (1 : Int) * 2 ^ k.toNat = P
  have hP2 : (2 : Int) ^ k.toNat = P := by rw [← hP, Int.one_mul]
  have hP1 : 1 ≤ P ∧ P ≤ 32 := by rw [hP2] at ps; omega
  have hb : ∀ (t : Int), 0 ≤ t → t < 40 → t < 2 ^ 8000 := fun t h0 h1 => Int.lt_of_lt_of_le h1 (by decide +kernel)
  have draw : ∀ (c : Int) (hc : 0 ≤ c ∧ c ≤ 40) (form : Int), wSs Γ (.cons (.ret (.comp [8] (.call 13 (.cons (.var 0) (.cons (.var 3) .nil))) (.nm 8) (.rng (.cons (.call 13 (.cons (.var 0) (.cons (.cst (.int c)) .nil))) .nil)) .tyes)) .nil)
      [.val .tok, .val (.int k), .val (.int form), .val (.int (P - 1)), .un, .un, .un, .un, .un] { nx := fun _ => (Γ 22).post k false .non, rt := (Γ 22).post k } fun e _ => (Γ 22).exc k e := fun c hc form => by
    conv => whnf
    refine nat_run (Γ := Γ) (m := 13) rfl hc.1 (Int.lt_of_le_of_lt hc.2 (by decide +kernel)) fun r h0 h1 => ?_
    conv => whnf
    refine ⟨by constructor <;> omega, ?_⟩
    conv => whnf
    refine compL_draw (ρ := [.val .tok, .val (.int k), .val (.int form), .val (.int (P - 1)), .un, .un, .un, .un, .un]) (fun m => 0 ≤ m ∧ m < 2 ^ k.toNat) (fun d => [.val .tok, .val (.int k), .val (.int form), .val (.int (P - 1)), .un, .un, .un, .un, .val d]) (fun d => rfl) _ (by rw [rngD_len]; show _ ≤ 1000000; omega) (fun d hd Ka Ks ha => ?_) (fun ms hl hm => ?_)
    · conv => whnf
      refine ⟨fun _ => ?_, fun h => by cases h⟩
      conv => whnf
      exact nat_run (Γ := Γ) (m := 13) rfl (by omega) (Int.lt_of_le_of_lt (show P - 1 ≤ 40 by omega) (by decide +kernel)) fun r h0 h1 => ha r ⟨h0, by rw [hP2]; omega⟩
    · rw [rngD_len] at hl
      exact ⟨rfl, ms, rfl, by omega, hm⟩
  conv => whnf
  refine ⟨fun h => ?_, fun h => ?_⟩
  · conv => whnf
    refine take_run (Γ := Γ) (n := 10) rfl (by decide) fun size s0 s1 => ?_
    conv => whnf
    refine ⟨by constructor <;> omega, ?_⟩
    conv => whnf
    rw [rngD_ints]
    refine compL_ints (ρ := [.val .tok, .val (.int k), .val (.int form), .val (.int (P - 1)), .val (.int size), .un, .un, .un, .un]) (fun m => decide (((rgI 0 k).map fun b => Builtin.bitAnd (m / 2 ^ b.toNat) 1).sum = size)) (fun m => [.val .tok, .val (.int k), .val (.int form), .val (.int (P - 1)), .val (.int size), .val (.int m), .un, .un, .un]) (fun m => rfl) _ _ (by rw [rgI_len]; show 0 + _ ≤ 1000000; omega) (fun m hm Ka Ks ha hn => ?_) ?_
    · conv => whnf
      refine ⟨by have := hs.1; have := hs.2; constructor <;> omega, ?_⟩
      conv => whnf
      rw [rngD_ints]
      refine compL_map (fun b => .int (Builtin.bitAnd (m / 2 ^ b.toNat) 1)) (ρ := [.val .tok, .val (.int k), .val (.int form), .val (.int (P - 1)), .val (.int size), .val (.int m), .un, .un, .un]) (fun b => [.val .tok, .val (.int k), .val (.int form), .val (.int (P - 1)), .val (.int size), .val (.int m), .val (.int b), .un, .un]) (fun b => rfl) _ _ (by rw [rgI_len]; have := hs.2; show 0 + _ ≤ 1000000; omega) (fun b hb Ka' Ks' ha' => ?_) ?_
      · conv => whnf
        refine ⟨fun _ => ?_, fun h => by cases h⟩
        conv => whnf
        exact ⟨(rgI_mem hb).1, ha'⟩
      · rw [List.nil_append]
        conv => whnf
        refine ⟨_, intsL _, ?_⟩
        exact ⟨ha, hn⟩
    · rw [List.nil_append]
      generalize hfs : (rgI 0 (P - 1 + 1)).filter (fun m => decide (((rgI 0 k).map fun b => Builtin.bitAnd (m / 2 ^ b.toNat) 1).sum = size)) = fs
      have hfl : fs.length ≤ 32 := by
        have := List.length_filter_le (fun m => decide (((rgI 0 k).map fun b => Builtin.bitAnd (m / 2 ^ b.toNat) 1).sum = size)) (rgI 0 (P - 1 + 1))
        rw [hfs, rgI_len] at this
        omega
      conv => whnf
      refine ⟨.inl rfl, ?_⟩
      conv => whnf
      refine shuf_run (Γ := Γ) (m := 12) rfl (by rw [List.length_map]; show _ ≤ 1000000; omega) fun es hes => ?_
      obtain ⟨ms, rfl, hp⟩ := perm_map hes fs rfl
      refine ⟨rfl, ms, rfl, by rw [hp.length_eq]; omega, fun m hm => ?_⟩
      have := hp.mem_iff.mp hm
      rw [← hfs] at this
      have := rgI_mem (List.mem_filter.mp this).1
      rw [hP2]
      omega
  · conv => whnf
    refine ⟨fun h1 => draw 40 (by decide) form, fun h1 => ?_⟩
    conv => whnf
    refine ⟨fun h2 => ?_, fun h2 => draw 6 (by decide) form⟩
    conv => whnf
    refine ⟨_, rfl, ⟨by decide, by decide, by omega, by show _ ≤ (1000000 : Int); omega⟩, ?_⟩
    rw [show (Option.none : Option Int).getD 0 = 0 from rfl, rngD_ints]
    conv => whnf
    refine shuf_run (Γ := Γ) (m := 12) rfl (by rw [List.length_map, rgI_len]; show _ ≤ 1000000; omega) fun es hes => ?_
    obtain ⟨ms, rfl, hp⟩ := perm_map hes _ rfl
    conv => whnf
    refine take_run (Γ := Γ) (n := 10) rfl (by decide) fun r r0 r1 => ?_
    conv => whnf
    refine ⟨r, rfl, ?_⟩
    refine ⟨rfl, VL.cutD ms (some r) none, ?_, ?_, fun m hm => ?_⟩
    · unfold VL.cutD
      show D.lst _ = D.lst _
      rw [List.length_map, ← List.map_drop, ← List.map_take]
    · unfold VL.cutD
      rw [List.length_take, List.length_drop, hp.length_eq, rgI_len]
      omega
    · unfold VL.cutD at hm
      have hm := List.mem_of_mem_drop (List.mem_of_mem_take hm)
      have := rgI_mem (hp.mem_iff.mp hm)
      rw [hP2]
      omega
theorem call22 {k : Int} {K : Bool → D → Prop} {E : Exc → Prop} (hs : small k) (h : ∀ ms : List Int, ms.length ≤ 64 → inR k ms → K true (ilst ms)) : (Γ 22).run [.tok, .int k] K E :=
  run_of (s := sp22) k rfl hs (fun o d hp => by obtain ⟨rfl, ms, rfl, h1, h2⟩ := hp; exact h ms h1 h2) (fun e z => z.elim)

theorem call23 {ms : List Int} {k : Int} {K : Bool → D → Prop} {E : Exc → Prop} (hs : small k) (hl : ms.length ≤ 64) (hi : inR k ms) (h : K false (.bl true)) : (Γ 23).run [ilst ms, .int k] K E := run_det (α := List Int × Int) (ms, k) rfl ⟨hs, hl, hi⟩ h
theorem pickI {is : List Int} {K : Bool → D → Prop} {E : Exc → Prop} (hne : is ≠ []) (hl : is.length ≤ lim) (h : ∀ i ∈ is, K false (.int i)) : (Γ 11).run [.tok, .lst (is.map .int)] K E :=
  pick_run (Γ := Γ) (m := 11) rfl (fun z => hne (List.map_eq_nil_iff.mp z)) (by rw [List.length_map]; exact hl) fun d hd => by
    obtain ⟨i, hi, rfl⟩ := List.mem_map.mp hd
    exact h i hi
theorem val25 : wSs Γ ir25 (.un :: .val .tok :: List.replicate (cc25.N.length - 2) .un) { nx := fun _ => False, rt := fun o d => o = false ∧ d = .bl true } (fun _ _ => False) := by
  show wSs Γ ir25 [.un, .val .tok, .un, .un, .un, .un, .un, .un] _ _
  conv => whnf
  refine pickI (is := [0, 1, 2, 2, 3, 3, 4, 4, 5, 5, 5, 5]) (by decide) (by decide) fun many hmany => ?_
  have hs : small many := by
    have : ∀ i ∈ [(0 : Int), 1, 2, 2, 3, 3, 4, 4, 5, 5, 5, 5], 0 ≤ i ∧ i ≤ 5 := by decide
    exact this many hmany
  conv => whnf
  refine call22 hs fun masks hml hmi => ?_
  conv => whnf
  refine pickI (is := [1, 4, 5]) (by decide) (by decide) fun size hsize => ?_
  have hz : small size := by
    have : ∀ i ∈ [(1 : Int), 4, 5], 0 ≤ i ∧ i ≤ 5 := by decide
    exact this size hsize
  have hz1 : 1 ≤ size := by
    have : ∀ i ∈ [(1 : Int), 4, 5], 1 ≤ i := by decide
    exact this size hsize
  conv => whnf
  refine call22 hz fun others hol hoi => ?_
  conv => whnf
  refine ⟨⟨by decide, by decide⟩, ?_⟩
  conv => whnf
  refine pickI (is := [0, 0, 1, 58, 10 ^ (20 : Int).toNat]) (by decide) (by decide) fun f hf => ?_
  have hf0 : 5 < 6 + f := by
    have : ∀ i ∈ [(0 : Int), 0, 1, 58, 10 ^ (20 : Int).toNat], 0 ≤ i := by decide
    have := this f hf
    omega
  conv => whnf
  refine pick_run (Γ := Γ) (m := 11) (ds := [ilst [], ilst [0], ilst [63, 1], ilst [32, 5, 5]]) rfl (by simp) (by decide) fun wd hwd => ?_
  obtain ⟨wide, hwl, rfl⟩ : ∃ ws : List Int, ws.length ≤ 64 ∧ wd = ilst ws := by
    simp only [List.mem_cons, List.not_mem_nil, or_false] at hwd
    rcases hwd with rfl | rfl | rfl | rfl
    · exact ⟨[], by decide, rfl⟩
    · exact ⟨[0], by decide, rfl⟩
    · exact ⟨[63, 1], by decide, rfl⟩
    · exact ⟨[32, 5, 5], by decide, rfl⟩
  conv => whnf
  refine ⟨.inl rfl, ?_⟩
  conv => whnf
  refine call23 hs hml hmi ?_
  conv => whnf
  refine ⟨fun h => absurd h (by decide), fun _ => ?_⟩
  conv => whnf
  refine ⟨.inl rfl, ?_⟩
  conv => whnf
  refine call23 hz hol hoi ?_
  conv => whnf
  refine ⟨fun h => absurd h (by decide), fun _ => ?_⟩
  conv => whnf
  refine call24 hf0 hwl ?_
  conv => whnf
  refine ⟨fun h => absurd h (by decide), fun _ => ?_⟩
  conv => whnf
  refine call24 hf0 hwl ?_
  conv => whnf
  refine ⟨fun h => absurd h (by decide), fun _ => ?_⟩
  conv => whnf
  refine ⟨.inl rfl, ?_⟩
  conv => whnf
  refine call23 hs hml hmi ?_
  conv => whnf
  refine ⟨true, rfl, fun _ => ?_, fun h => absurd h (by decide)⟩
  conv => whnf
  refine call23 (ms := []) hs (by decide) (fun m hm => by cases hm) ?_
  conv => whnf
  refine ⟨true, rfl, fun _ => ?_, fun h => absurd h (by decide)⟩
  conv => whnf
  refine call23 (ms := [0]) hz (by decide) (fun m hm => ?_) ⟨rfl, rfl⟩
  rw [List.mem_singleton.mp hm]
  have := pow_small hz
  omega

theorem inF_ints {d : Int} : ∀ {acc : List Int}, inF (.int d) (acc.map .int) = decide (d ∈ acc)
  | [] => rfl
  | a :: acc => by
    have ih := inF_ints (d := d) (acc := acc)
    unfold inF at ih ⊢
    rw [List.map_cons, List.any_cons, ih]
    show ((a == d) || _) = _
    by_cases h : a = d
    · subst h
      simp
    · have h2 : ¬ d = a := fun z => h z.symm
      simp [h, h2]
theorem uniq_ints : ∀ (ms acc : List Int), acc.Nodup → ∃ us : List Int, uniq (ms.map .int) (acc.map .int) = us.map .int ∧ us.Nodup ∧ (∀ m, m ∈ us ↔ m ∈ acc ∨ m ∈ ms) ∧ us.length ≤ acc.length + ms.length
  | [], acc, h => ⟨acc, rfl, h, by simp, by simp⟩
  | m :: ms, acc, h => by
    rw [List.map_cons, uniq_cons, inF_ints]
    by_cases hm : m ∈ acc
    · rw [if_pos (decide_eq_true hm)]
      obtain ⟨us, h1, h2, h3, h4⟩ := uniq_ints ms acc h
      refine ⟨us, h1, h2, fun z => ?_, by rw [List.length_cons]; omega⟩
      rw [h3, List.mem_cons]
      constructor
      · rintro (h | h)
        · exact .inl h
        · exact .inr (.inr h)
      · rintro (h | rfl | h)
        · exact .inl h
        · exact .inl hm
        · exact .inr h
    · rw [if_neg (by simpa using hm)]
      have hn : (acc ++ [m]).Nodup := by
        rw [List.nodup_append]
        refine ⟨h, by simp, fun a ha b hb => ?_⟩
        rw [List.mem_singleton.mp hb]
        exact fun z => hm (z ▸ ha)
      obtain ⟨us, h1, h2, h3, h4⟩ := uniq_ints ms (acc ++ [m]) hn
      rw [List.map_append] at h1
      refine ⟨us, h1, h2, fun z => ?_, by rw [List.length_append, List.length_singleton] at h4; rw [List.length_cons]; omega⟩
      rw [h3, List.mem_append, List.mem_singleton, List.mem_cons, or_assoc]
theorem call14 {ms : List Int} {K : Bool → D → Prop} {E : Exc → Prop} (hl : ms.length ≤ 1000) (h : ∀ us : List Int, us.Nodup → (∀ m, m ∈ us ↔ m ∈ ms) → us.length ≤ ms.length → K true (ilst us)) : (Γ 14).run [ilst ms] K E := by
  refine uniq_run (Γ := Γ) (m := 14) rfl ?_ (by rw [List.length_map]; show ms.length ≤ 1000000; omega) ?_
  · rw [List.all_eq_true]
    intro d hd
    obtain ⟨i, _, rfl⟩ := List.mem_map.mp hd
    rfl
  · obtain ⟨us, h1, h2, h3, h4⟩ := uniq_ints ms [] List.nodup_nil
    have e : uniq (ms.map .int) [] = us.map .int := h1
    rw [e]
    exact h us h2 (fun m => by rw [h3]; simp) (by simpa using h4)
theorem intsD_ilst : ∀ ms : List Int, intsD (ms.map .int) = some ms
  | [] => rfl
  | m :: ms => by
    rw [List.map_cons]
    unfold intsD
    rw [intsD_ilst ms] <;> rfl
theorem strict_of {us : List Int} (h : us.Pairwise (· ≤ ·)) (hn : us.Nodup) : us.Pairwise (· < ·) := by
  have : us.Pairwise (fun a b => a ≤ b ∧ a ≠ b) := h.and hn
  exact this.imp fun ⟨h1, h2⟩ => by omega
theorem val21 : VAL 21 ir21 N21 := by
  show ∀ x : List Int × Int, x.1.length ≤ 1000 ∧ (x.2 = 0 ∨ x.2 = 1) → _
  rintro ⟨ms, way⟩ ⟨hl, hw⟩
  have hl : ms.length ≤ 1000 := hl
  have hw : way = 0 ∨ way = 1 := hw
  rcases hw with rfl | rfl
  · show wSs Γ ir21 [.val (ilst ms), .val (.int 0), .un, .un, .un] _ _
    conv => whnf
    refine call14 hl fun us hn hm hul => ?_
    conv => whnf
    refine ⟨us, intsD_ilst us, by rw [List.length_map]; show _ ≤ 1000000; omega, fun vs hp hs => ?_⟩
    have hst : vs.Pairwise (· < ·) := strict_of hs (hp.nodup_iff.mpr hn)
    have hvm : ∀ m, m ∈ vs ↔ m ∈ ms := fun m => (hp.mem_iff).trans (hm m)
    have hvl : vs.length ≤ 1000 := by rw [hp.length_eq]; omega
    conv => whnf
    refine forL_inv (fun ds ρ => ∃ (r acc : List Int) (s3 : Slot), ds = r.map .int ∧ ρ = [.val (ilst ms), .val (.int 0), .own (ilst acc), s3, .un] ∧ edgeL ms 0 vs = acc ++ edgeL ms 0 r ∧ acc.length + r.length ≤ 1000) (fun ρ h => ?_) (fun d ds ρ nx bk h hn hb => ?_) _ _ ⟨vs, [], .un, rfl, rfl, rfl, by simpa using hvl⟩
    · obtain ⟨r, acc, s3, h1, rfl, h2, _⟩ := h
      cases r with
      | cons a r => cases h1
      | nil =>
        refine ⟨rfl, vs, hst, hvm, ?_⟩
        rw [h2]
        show D.lst _ = ilst _
        unfold edgeL
        rw [List.filter_nil, List.append_nil] <;> rfl
    · obtain ⟨r, acc, s3, h1, rfl, h2, h3⟩ := h
      cases r with
      | nil => cases h1
      | cons m r =>
        cases h1
        rw [List.length_cons] at h3
        have hedge : edgeL ms 0 (m :: r) = (if !(ms.any fun n => decide (n ≠ m) && bw n m) then [m] else []) ++ edgeL ms 0 r := by
          unfold edgeL
          rw [List.filter_cons]
          show (if (if (0 : Int) = 0 then _ else _) = true then _ else _) = _
          rw [if_pos rfl]
          split <;> rfl
        conv => whnf
        refine ⟨fun _ => ?_, fun h => absurd h (by decide)⟩
        conv => whnf
        refine compL_ints (ρ := [.val (ilst ms), .val (.int 0), .own (ilst acc), .val (.int m), .un]) (fun n => decide (n ≠ m) && bw n m) (fun n => [.val (ilst ms), .val (.int 0), .own (ilst acc), .val (.int m), .val (.int n)]) (fun m => rfl) _ _ (by show 0 + ms.length ≤ 1000000; omega) (fun n hn' Ka' Ks' ha' hn'' => ?_) ?_
        · conv => whnf
          refine ⟨fun h => ?_, fun h => ?_⟩
          · have h : (!decide (n = m)) = true := h
            simp only [ne_eq, decide_not, h, Bool.true_and] at ha' hn''
            conv => whnf
            refine call18 ?_
            conv => whnf
            exact ⟨ha', hn''⟩
          · have h : (!decide (n = m)) = false := h
            simp only [ne_eq, decide_not, h, Bool.false_and] at ha' hn''
            exact ⟨(fun h => by cases h), fun _ => hn'' trivial⟩
        · conv => whnf
          rw [List.nil_append, List.length_map, len0]
          refine ⟨fun h => ?_, fun h => ?_⟩
          · conv => whnf
            refine ⟨.inl rfl, ?_⟩
            conv => whnf
            refine ⟨⟨rfl, by rw [List.length_map]; show _ < 1000000; omega⟩, ?_⟩
            have fin := hn [.val (ilst ms), .val (.int 0), .own (ilst (acc ++ [m])), .val (.int m), .un] ⟨r, acc ++ [m], _, rfl, rfl, by rw [h2, hedge, if_pos h, List.append_assoc], by rw [List.length_append, List.length_singleton]; omega⟩
            rw [show ilst (acc ++ [m]) = .lst (acc.map .int ++ [.int m]) by unfold ilst; rw [List.map_append] <;> rfl] at fin
            conv => whnf
            exact ⟨fun h => absurd h (by decide), fun _ => ⟨(fun h => by cases h), fun _ => fin⟩⟩
          · have fin := hn [.val (ilst ms), .val (.int 0), .own (ilst acc), .val (.int m), .un] ⟨r, acc, _, rfl, rfl, by rw [h2, hedge, if_neg (by rw [h]; decide), List.nil_append], by omega⟩
            conv => whnf
            exact ⟨fun h => absurd h (by decide), fun _ => ⟨(fun h => by cases h), fun _ => fin⟩⟩
  · show wSs Γ ir21 [.val (ilst ms), .val (.int 1), .un, .un, .un] _ _
    conv => whnf
    refine call14 hl fun us hn hm hul => ?_
    conv => whnf
    refine ⟨us, intsD_ilst us, by rw [List.length_map]; show _ ≤ 1000000; omega, fun vs hp hs => ?_⟩
    have hst : vs.Pairwise (· < ·) := strict_of hs (hp.nodup_iff.mpr hn)
    have hvm : ∀ m, m ∈ vs ↔ m ∈ ms := fun m => (hp.mem_iff).trans (hm m)
    have hvl : vs.length ≤ 1000 := by rw [hp.length_eq]; omega
    conv => whnf
    refine forL_inv (fun ds ρ => ∃ (r acc : List Int) (s3 : Slot), ds = r.map .int ∧ ρ = [.val (ilst ms), .val (.int 1), .own (ilst acc), s3, .un] ∧ edgeL ms 1 vs = acc ++ edgeL ms 1 r ∧ acc.length + r.length ≤ 1000) (fun ρ h => ?_) (fun d ds ρ nx bk h hn hb => ?_) _ _ ⟨vs, [], .un, rfl, rfl, rfl, by simpa using hvl⟩
    · obtain ⟨r, acc, s3, h1, rfl, h2, _⟩ := h
      cases r with
      | cons a r => cases h1
      | nil =>
        refine ⟨rfl, vs, hst, hvm, ?_⟩
        rw [h2]
        show D.lst _ = ilst _
        unfold edgeL
        rw [List.filter_nil, List.append_nil] <;> rfl
    · obtain ⟨r, acc, s3, h1, rfl, h2, h3⟩ := h
      cases r with
      | nil => cases h1
      | cons m r =>
        cases h1
        rw [List.length_cons] at h3
        have hedge : edgeL ms 1 (m :: r) = (if !(ms.any fun n => decide (n ≠ m) && bw m n) then [m] else []) ++ edgeL ms 1 r := by
          unfold edgeL
          rw [List.filter_cons]
          simp only [show ((1 : Int) = 0) ↔ False from by decide, if_false]
          split <;> rfl
        conv => whnf
        refine ⟨fun h => absurd h (by decide), fun _ => ?_⟩
        refine ⟨(fun h => by cases h), fun _ => ?_⟩
        conv => whnf
        refine ⟨fun _ => ?_, fun h => absurd h (by decide)⟩
        conv => whnf
        refine compL_ints (ρ := [.val (ilst ms), .val (.int 1), .own (ilst acc), .val (.int m), .un]) (fun n => decide (n ≠ m) && bw m n) (fun n => [.val (ilst ms), .val (.int 1), .own (ilst acc), .val (.int m), .val (.int n)]) (fun m => rfl) _ _ (by show 0 + ms.length ≤ 1000000; omega) (fun n hn' Ka' Ks' ha' hn'' => ?_) ?_
        · conv => whnf
          refine ⟨fun h => ?_, fun h => ?_⟩
          · have h : (!decide (n = m)) = true := h
            simp only [ne_eq, decide_not, h, Bool.true_and] at ha' hn''
            conv => whnf
            refine call18 ?_
            conv => whnf
            exact ⟨ha', hn''⟩
          · have h : (!decide (n = m)) = false := h
            simp only [ne_eq, decide_not, h, Bool.false_and] at ha' hn''
            exact ⟨(fun h => by cases h), fun _ => hn'' trivial⟩
        · conv => whnf
          rw [List.nil_append, List.length_map, len0]
          refine ⟨fun h => ?_, fun h => ?_⟩
          · conv => whnf
            refine ⟨.inl rfl, ?_⟩
            conv => whnf
            refine ⟨⟨rfl, by rw [List.length_map]; show _ < 1000000; omega⟩, ?_⟩
            have fin := hn [.val (ilst ms), .val (.int 1), .own (ilst (acc ++ [m])), .val (.int m), .un] ⟨r, acc ++ [m], _, rfl, rfl, by rw [h2, hedge, if_pos h, List.append_assoc], by rw [List.length_append, List.length_singleton]; omega⟩
            rw [show ilst (acc ++ [m]) = .lst (acc.map .int ++ [.int m]) by unfold ilst; rw [List.map_append] <;> rfl] at fin
            exact fin
          · have fin := hn [.val (ilst ms), .val (.int 1), .own (ilst acc), .val (.int m), .un] ⟨r, acc, _, rfl, rfl, by rw [h2, hedge, if_neg (by rw [h]; decide), List.nil_append], by omega⟩
            exact fin

/-! ### the mathematics: masks, faces, supports -/
theorem band {a b : Int} (ha : 0 ≤ a) (hb : 0 ≤ b) : Builtin.bitAnd a b = ((a.toNat &&& b.toNat : Nat) : Int) := by
  unfold Builtin.bitAnd
  simp [ha, hb]
theorem bw_iff {a b : Int} (ha : 0 ≤ a) (hb : 0 ≤ b) : bw a b = true ↔ a.toNat &&& b.toNat = a.toNat := by
  unfold bw
  rw [decide_eq_true_eq, band ha hb]
  omega
theorem bw_refl {a : Int} (ha : 0 ≤ a) : bw a a = true := (bw_iff ha ha).mpr (Nat.and_self _)
theorem bw_trans {a b c : Int} (ha : 0 ≤ a) (hb : 0 ≤ b) (hc : 0 ≤ c) (h1 : bw a b = true) (h2 : bw b c = true) : bw a c = true := by
  rw [bw_iff ha hb] at h1
  rw [bw_iff hb hc] at h2
  rw [bw_iff ha hc, ← h1, Nat.and_assoc, h2]
theorem bw_le {a b : Int} (ha : 0 ≤ a) (hb : 0 ≤ b) (h : bw a b = true) : a ≤ b := by
  rw [bw_iff ha hb] at h
  have : a.toNat &&& b.toNat ≤ b.toNat := Nat.and_le_right
  omega
theorem bw_anti {a b : Int} (ha : 0 ≤ a) (hb : 0 ≤ b) (h1 : bw a b = true) (h2 : bw b a = true) : a = b := by
  have := bw_le ha hb h1
  have := bw_le hb ha h2
  omega
theorem sorted_ext : ∀ {as bs : List Int}, as.Pairwise (· < ·) → bs.Pairwise (· < ·) → (∀ m, m ∈ as ↔ m ∈ bs) → as = bs
  | [], [], _, _, _ => rfl
  | [], b :: bs, _, _, h => absurd ((h b).mpr List.mem_cons_self) (by simp)
  | a :: as, [], _, _, h => absurd ((h a).mp List.mem_cons_self) (by simp)
  | a :: as, b :: bs, h1, h2, h => by
    rw [List.pairwise_cons] at h1 h2
    have e : a = b := by
      have ha := (h a).mp List.mem_cons_self
      have hb := (h b).mpr List.mem_cons_self
      rcases List.mem_cons.mp ha with e | ha
      · exact e
      · rcases List.mem_cons.mp hb with e | hb
        · exact e.symm
        · have := h1.1 b hb
          have := h2.1 a ha
          omega
    subst e
    rw [sorted_ext h1.2 h2.2 fun m => ?_]
    constructor
    · intro hm
      rcases List.mem_cons.mp ((h m).mp (List.mem_cons_of_mem _ hm)) with e | hm'
      · have := h1.1 m hm
        omega
      · exact hm'
    · intro hm
      rcases List.mem_cons.mp ((h m).mpr (List.mem_cons_of_mem _ hm)) with e | hm'
      · have := h2.1 m hm
        omega
      · exact hm'
theorem rg_sorted (k : Int) : (rg k).Pairwise (· < ·) := by
  unfold rg
  rw [List.pairwise_map]
  exact List.pairwise_lt_range.imp fun h => by omega
theorem rg_mem {k m : Int} : m ∈ rg k ↔ 0 ≤ m ∧ m < 2 ^ k.toNat := by
  unfold rg
  rw [List.mem_map]
  have e : ((2 : Int) ^ k.toNat) = ((2 ^ k.toNat : Nat) : Int) := by simp
  constructor
  · rintro ⟨i, hi, rfl⟩
    have := List.mem_range.mp hi
    rw [e]
    omega
  · rintro ⟨h0, h1⟩
    rw [e] at h1
    exact ⟨m.toNat, List.mem_range.mpr (by omega), by omega⟩
/-- something least lies below -/
theorem below {p : Int → Bool} : ∀ (n : Nat) (m : Int), m.toNat ≤ n → 0 ≤ m → p m = true → ∃ s, 0 ≤ s ∧ p s = true ∧ bw s m = true ∧ ∀ t, 0 ≤ t → p t = true → t ≠ s → bw t s = false := by
  intro n
  induction n with
  | zero =>
    intro m h h0 hp
    refine ⟨m, h0, hp, bw_refl h0, fun t ht _ hne => ?_⟩
    cases q : bw t m with
    | false => rfl
    | true => have := bw_le ht h0 q; omega
  | succ n ih =>
    intro m h h0 hp
    by_cases hq : ∃ t, 0 ≤ t ∧ p t = true ∧ t ≠ m ∧ bw t m = true
    · obtain ⟨t, ht, hpt, hne, hb⟩ := hq
      have := bw_le ht h0 hb
      obtain ⟨s, s0, sp, sb, sm⟩ := ih t (by omega) ht hpt
      exact ⟨s, s0, sp, bw_trans s0 ht h0 sb hb, sm⟩
    · refine ⟨m, h0, hp, bw_refl h0, fun t ht hpt hne => ?_⟩
      cases q : bw t m with
      | false => rfl
      | true => exact absurd ⟨t, ht, hpt, hne, q⟩ hq
/-- something greatest lies above -/
theorem above {p : Int → Bool} {B : Int} (hB : ∀ m, p m = true → 0 ≤ m ∧ m < B) : ∀ (n : Nat) (m : Int), (B - m).toNat ≤ n → p m = true → ∃ s, p s = true ∧ bw m s = true ∧ ∀ t, p t = true → t ≠ s → bw s t = false := by
  intro n
  induction n with
  | zero =>
    intro m h hp
    have := hB m hp
    omega
  | succ n ih =>
    intro m h hp
    have hm := hB m hp
    by_cases hq : ∃ t, p t = true ∧ t ≠ m ∧ bw m t = true
    · obtain ⟨t, hpt, hne, hb⟩ := hq
      have ht := hB t hpt
      have := bw_le hm.1 ht.1 hb
      obtain ⟨s, sp, sb, sm⟩ := ih t (by omega) hpt
      have hs := hB s sp
      exact ⟨s, sp, bw_trans hm.1 ht.1 hs.1 hb sb, sm⟩
    · refine ⟨m, hp, bw_refl hm.1, fun t hpt hne => ?_⟩
      cases q : bw m t with
      | false => rfl
      | true => exact absurd ⟨t, hpt, hne, q⟩ hq

/-! ### the two roads -/
theorem mem_leastL {ms : List Int} {m : Int} : m ∈ leastL ms ↔ m ∈ ms ∧ ∀ n ∈ ms, n ≠ m → bw n m = false := by
  unfold leastL
  rw [List.mem_filter]
  refine and_congr_right fun _ => ?_
  rw [Bool.not_eq_true', List.any_eq_false]
  refine forall_congr' fun n => forall_congr' fun _ => ?_
  by_cases e : n = m <;> simp [e]
theorem mem_greatL {ms : List Int} {m : Int} : m ∈ greatL ms ↔ m ∈ ms ∧ ∀ n ∈ ms, n ≠ m → bw m n = false := by
  unfold greatL
  rw [List.mem_filter]
  refine and_congr_right fun _ => ?_
  rw [Bool.not_eq_true', List.any_eq_false]
  refine forall_congr' fun n => forall_congr' fun _ => ?_
  by_cases e : n = m <;> simp [e]
theorem mem_avoids {ss : List Int} {k m : Int} : m ∈ (rg k).filter (avoidsB ss) ↔ (0 ≤ m ∧ m < 2 ^ k.toNat) ∧ ∀ s ∈ ss, bw s m = false := by
  rw [List.mem_filter, rg_mem]
  refine and_congr_right fun _ => ?_
  unfold avoidsB
  rw [List.all_eq_true]
  refine forall_congr' fun n => forall_congr' fun _ => ?_
  simp
theorem mem_non {fs : List Int} {k m : Int} : m ∈ (rg k).filter (fun m => !(fs.any fun f => bw m f)) ↔ (0 ≤ m ∧ m < 2 ^ k.toNat) ∧ ∀ f ∈ fs, bw m f = false := by
  rw [List.mem_filter, rg_mem]
  refine and_congr_right fun _ => ?_
  rw [Bool.not_eq_true', List.any_eq_false]
  refine forall_congr' fun n => forall_congr' fun _ => ?_
  simp
theorem mem_facesL {ms : List Int} {k m : Int} : m ∈ facesL ms k ↔ ((0 ≤ m ∧ m < 2 ^ k.toNat) ∧ ∀ s ∈ ms, bw s m = false) ∧ ∀ n : Int, ((0 ≤ n ∧ n < 2 ^ k.toNat) ∧ ∀ s ∈ ms, bw s n = false) → n ≠ m → bw m n = false := by
  unfold facesL
  rw [mem_greatL]
  simp only [mem_avoids]
theorem mem_suppsL {ms : List Int} {k m : Int} : m ∈ suppsL ms k ↔ ((0 ≤ m ∧ m < 2 ^ k.toNat) ∧ ∀ f ∈ ms, bw m f = false) ∧ ∀ n : Int, ((0 ≤ n ∧ n < 2 ^ k.toNat) ∧ ∀ f ∈ ms, bw n f = false) → n ≠ m → bw n m = false := by
  unfold suppsL
  rw [mem_leastL]
  simp only [mem_non]
theorem facesL_sorted (ms : List Int) (k : Int) : (facesL ms k).Pairwise (· < ·) := by
  unfold facesL greatL
  exact ((rg_sorted k).filter _).filter _
theorem suppsL_sorted (ms : List Int) (k : Int) : (suppsL ms k).Pairwise (· < ·) := by
  unfold suppsL leastL
  exact ((rg_sorted k).filter _).filter _
theorem not_ex {ms : List Int} {p : Int → Bool} (h : ¬ ∀ s ∈ ms, p s = false) : ∃ s ∈ ms, p s = true := by
  apply Classical.byContradiction
  intro hn
  apply h
  intro s hs
  cases q : p s with
  | false => rfl
  | true => exact absurd ⟨s, hs, q⟩ hn
theorem non_faces {ms : List Int} {k m : Int} (hr : inR k ms) (h0 : 0 ≤ m) (h1 : m < 2 ^ k.toNat) : (∀ f ∈ facesL ms k, bw m f = false) ↔ ∃ s ∈ ms, bw s m = true := by
  constructor
  · intro h
    apply not_ex (p := fun s => bw s m)
    intro hn
    obtain ⟨s, sp, sb, sm⟩ := above (p := fun n => decide (((0 ≤ n ∧ n < 2 ^ k.toNat) ∧ ∀ s ∈ ms, bw s n = false))) (B := 2 ^ k.toNat) (fun n hn => (of_decide_eq_true hn).1) _ m (Nat.le_refl _) (decide_eq_true ⟨⟨h0, h1⟩, hn⟩)
    have := h s (mem_facesL.mpr ⟨of_decide_eq_true sp, fun n hn hne => sm n (decide_eq_true hn) hne⟩)
    rw [this] at sb
    cases sb
  · rintro ⟨s, hs, hb⟩ f hf
    have hf' := (mem_facesL.mp hf).1
    cases q : bw m f with
    | false => rfl
    | true =>
      have := bw_trans (hr s hs).1 h0 hf'.1.1 hb q
      rw [hf'.2 s hs] at this
      cases this
theorem non_supps {ms : List Int} {k m : Int} (hr : inR k ms) (h0 : 0 ≤ m) (h1 : m < 2 ^ k.toNat) : (∀ s ∈ suppsL ms k, bw s m = false) ↔ ∃ f ∈ ms, bw m f = true := by
  constructor
  · intro h
    apply not_ex (p := fun f => bw m f)
    intro hn
    obtain ⟨s, s0, sp, sb, sm⟩ := below (p := fun n => decide (((0 ≤ n ∧ n < 2 ^ k.toNat) ∧ ∀ f ∈ ms, bw n f = false))) _ m (Nat.le_refl _) h0 (decide_eq_true ⟨⟨h0, h1⟩, hn⟩)
    have := h s (mem_suppsL.mpr ⟨of_decide_eq_true sp, fun n hn hne => sm n hn.1.1 (decide_eq_true hn) hne⟩)
    rw [this] at sb
    cases sb
  · rintro ⟨f, hf, hb⟩ s hs
    have hs' := (mem_suppsL.mp hs).1
    cases q : bw s m with
    | false => rfl
    | true =>
      have := bw_trans hs'.1.1 h0 (hr f hf).1 q hb
      rw [hs'.2 f hf] at this
      cases this
theorem edge0 {ms us : List Int} {k : Int} (hr : inR k ms) (h1 : us.Pairwise (· < ·)) (h2 : ∀ m, m ∈ us ↔ m ∈ ms) : suppsL (facesL ms k) k = edgeL ms 0 us := by
  refine sorted_ext (suppsL_sorted _ _) (h1.filter _) fun m => ?_
  have e : m ∈ edgeL ms 0 us ↔ m ∈ leastL ms := by
    unfold edgeL leastL
    rw [List.mem_filter, List.mem_filter, h2]
    simp
  rw [e, mem_leastL, mem_suppsL]
  constructor
  · rintro ⟨⟨⟨a, b⟩, hn⟩, hm⟩
    have hm' : ∀ n ∈ ms, n ≠ m → bw n m = false := fun n hn hne => hm n ⟨hr n hn, (non_faces hr (hr n hn).1 (hr n hn).2).mpr ⟨n, hn, bw_refl (hr n hn).1⟩⟩ hne
    obtain ⟨s, hs, hb⟩ := (non_faces hr a b).mp hn
    refine ⟨?_, hm'⟩
    by_cases q : s = m
    · exact q ▸ hs
    · rw [hm' s hs q] at hb
      cases hb
  · rintro ⟨hm, hn⟩
    have r := hr m hm
    refine ⟨⟨r, (non_faces hr r.1 r.2).mpr ⟨m, hm, bw_refl r.1⟩⟩, fun n hn' hne => ?_⟩
    obtain ⟨s, hs, hb⟩ := (non_faces hr hn'.1.1 hn'.1.2).mp hn'.2
    cases q : bw n m with
    | false => rfl
    | true =>
      have t := bw_trans (hr s hs).1 hn'.1.1 r.1 hb q
      by_cases q' : s = m
      · subst q'
        exact absurd (bw_anti hn'.1.1 r.1 q hb) hne
      · rw [hn s hs q'] at t
        cases t
theorem edge1 {ms us : List Int} {k : Int} (hr : inR k ms) (h1 : us.Pairwise (· < ·)) (h2 : ∀ m, m ∈ us ↔ m ∈ ms) : facesL (suppsL ms k) k = edgeL ms 1 us := by
  refine sorted_ext (facesL_sorted _ _) (h1.filter _) fun m => ?_
  have e : m ∈ edgeL ms 1 us ↔ m ∈ greatL ms := by
    unfold edgeL greatL
    rw [List.mem_filter, List.mem_filter, h2]
    simp
  rw [e, mem_greatL, mem_facesL]
  constructor
  · rintro ⟨⟨⟨a, b⟩, hn⟩, hm⟩
    have hm' : ∀ n ∈ ms, n ≠ m → bw m n = false := fun n hn hne => hm n ⟨hr n hn, (non_supps hr (hr n hn).1 (hr n hn).2).mpr ⟨n, hn, bw_refl (hr n hn).1⟩⟩ hne
    obtain ⟨s, hs, hb⟩ := (non_supps hr a b).mp hn
    refine ⟨?_, hm'⟩
    by_cases q : s = m
    · exact q ▸ hs
    · rw [hm' s hs q] at hb
      cases hb
  · rintro ⟨hm, hn⟩
    have r := hr m hm
    refine ⟨⟨r, (non_supps hr r.1 r.2).mpr ⟨m, hm, bw_refl r.1⟩⟩, fun n hn' hne => ?_⟩
    obtain ⟨s, hs, hb⟩ := (non_supps hr hn'.1.1 hn'.1.2).mp hn'.2
    cases q : bw m n with
    | false => rfl
    | true =>
      have t := bw_trans r.1 hn'.1.1 (hr s hs).1 q hb
      by_cases q' : s = m
      · subst q'
        exact absurd (bw_anti hn'.1.1 r.1 hb q) hne
      · rw [hn s hs q'] at t
        cases t

theorem plain_ilst' (ms : List Int) : plainD (ilst ms) = true := plain_ilst ms
theorem call19 {ms : List Int} {k : Int} {K : Bool → D → Prop} {E : Exc → Prop} (hs : small k) (hl : ms.length ≤ 1000) (h : K true (ilst (facesL ms k))) : (Γ 19).run [ilst ms, .int k] K E := run_det (α := List Int × Int) (ms, k) rfl ⟨hs, hl⟩ h
theorem call20 {ms : List Int} {k : Int} {K : Bool → D → Prop} {E : Exc → Prop} (hs : small k) (hl : ms.length ≤ 1000) (h : K true (ilst (suppsL ms k))) : (Γ 20).run [ilst ms, .int k] K E := run_det (α := List Int × Int) (ms, k) rfl ⟨hs, hl⟩ h
theorem call21 {ms : List Int} {w : Int} {K : Bool → D → Prop} {E : Exc → Prop} (hl : ms.length ≤ 1000) (hw : w = 0 ∨ w = 1) (h : ∀ us : List Int, us.Pairwise (· < ·) → (∀ m, m ∈ us ↔ m ∈ ms) → K true (ilst (edgeL ms w us))) : (Γ 21).run [ilst ms, .int w] K E :=
  run_of (s := sp21) (ms, w) rfl ⟨hl, hw⟩ (fun o d ⟨h1, us, h2, h3, h4⟩ => by subst h1; subst h4; exact h us h2 h3) fun e he => he.elim
theorem rg_len' {k : Int} (hk : small k) : (rg k).length ≤ 32 := rg_len hk
theorem facesL_len {ms : List Int} {k : Int} (hk : small k) : (facesL ms k).length ≤ 32 := by
  unfold facesL greatL
  exact Nat.le_trans (List.length_filter_le _ _) (Nat.le_trans (List.length_filter_le _ _) (rg_len' hk))
theorem suppsL_len {ms : List Int} {k : Int} (hk : small k) : (suppsL ms k).length ≤ 32 := by
  unfold suppsL leastL
  exact Nat.le_trans (List.length_filter_le _ _) (Nat.le_trans (List.length_filter_le _ _) (rg_len' hk))
theorem same_ilst {as bs : List Int} {K : Bool → D → Prop} {E : Exc → Prop} (e : as = bs) (hl : as.length ≤ 1000) (h : K false (.bl true)) : (Γ 16).run [ilst as, ilst bs] K E :=
  same_run (Γ := Γ) (m := 16) rfl (congrArg ilst e) (plain_ilst as) (by rw [sz_ilst]; omega) h
theorem val23 : VAL 23 ir23 N23 := by
  show ∀ x : List Int × Int, small x.2 ∧ x.1.length ≤ 64 ∧ inR x.2 x.1 → _
  rintro ⟨ms, k⟩ ⟨hk, hl, hr⟩
  replace hk : small k := hk
  replace hl : ms.length ≤ 64 := hl
  replace hr : inR k ms := hr
  show wSs Γ ir23 [.val (ilst ms), .val (.int k), .un, .un, .un, .un] _ _
  conv => whnf
  refine ⟨by decide, ?_⟩
  generalize rngD 0 2 = ds0
  refine forL_inv (fun ds ρ => ∃ s2 s3 s4 s5 : Slot, ρ = [.val (ilst ms), .val (.int k), s2, s3, s4, s5]) (fun ρ h => ?_) (fun d ds ρ nx bk h hn hb => ?_) _ _ ⟨.un, .un, .un, .un, rfl⟩
  · obtain ⟨s2, s3, s4, s5, rfl⟩ := h
    exact ⟨rfl, rfl⟩
  · obtain ⟨s2, s3, s4, s5, rfl⟩ := h
    conv => whnf
    repeat first | (refine ⟨.inl rfl, ?_⟩; conv => whnf) | (refine ⟨.inr rfl, ?_⟩; conv => whnf)
    refine call6 hk.1 (fun _ => ?_) (fun h5 => absurd hk.2 (by omega))
    conv => whnf
    repeat first | (refine ⟨.inl rfl, ?_⟩; conv => whnf) | (refine ⟨.inr rfl, ?_⟩; conv => whnf)
    refine call7 hk.1 (by omega) (fun _ => ?_) (fun h5 => absurd hk.2 (by omega))
    conv => whnf
    repeat first | (refine ⟨.inl rfl, ?_⟩; conv => whnf) | (refine ⟨.inr rfl, ?_⟩; conv => whnf)
    refine same_ilst rfl (by omega) ?_
    conv => whnf
    repeat first | (refine ⟨.inl rfl, ?_⟩; conv => whnf) | (refine ⟨.inr rfl, ?_⟩; conv => whnf)
    refine ⟨fun h => absurd h (by decide), fun _ => ?_⟩
    conv => whnf
    repeat first | (refine ⟨.inl rfl, ?_⟩; conv => whnf) | (refine ⟨.inr rfl, ?_⟩; conv => whnf)
    refine call19 hk (by omega) ?_
    conv => whnf
    repeat first | (refine ⟨.inl rfl, ?_⟩; conv => whnf) | (refine ⟨.inr rfl, ?_⟩; conv => whnf)
    refine same_ilst rfl (by have := facesL_len (ms := ms) hk; omega) ?_
    conv => whnf
    repeat first | (refine ⟨.inl rfl, ?_⟩; conv => whnf) | (refine ⟨.inr rfl, ?_⟩; conv => whnf)
    refine ⟨fun h => absurd h (by decide), fun _ => ?_⟩
    conv => whnf
    repeat first | (refine ⟨.inl rfl, ?_⟩; conv => whnf) | (refine ⟨.inr rfl, ?_⟩; conv => whnf)
    refine call20 hk (by omega) ?_
    conv => whnf
    repeat first | (refine ⟨.inl rfl, ?_⟩; conv => whnf) | (refine ⟨.inr rfl, ?_⟩; conv => whnf)
    refine same_ilst rfl (by have := suppsL_len (ms := ms) hk; omega) ?_
    conv => whnf
    repeat first | (refine ⟨.inl rfl, ?_⟩; conv => whnf) | (refine ⟨.inr rfl, ?_⟩; conv => whnf)
    refine ⟨fun h => absurd h (by decide), fun _ => ?_⟩
    conv => whnf
    repeat first | (refine ⟨.inl rfl, ?_⟩; conv => whnf) | (refine ⟨.inr rfl, ?_⟩; conv => whnf)
    refine call7 hk.1 (by have := facesL_len (ms := ms) hk; omega) (fun _ => ?_) (fun h5 => absurd hk.2 (by omega))
    conv => whnf
    repeat first | (refine ⟨.inl rfl, ?_⟩; conv => whnf) | (refine ⟨.inr rfl, ?_⟩; conv => whnf)
    refine call21 (by omega) (.inl rfl) (fun us h1 h2 => ?_)
    conv => whnf
    repeat first | (refine ⟨.inl rfl, ?_⟩; conv => whnf) | (refine ⟨.inr rfl, ?_⟩; conv => whnf)
    refine same_ilst (edge0 hr h1 h2) (by have := suppsL_len (ms := facesL ms k) hk; omega) ?_
    conv => whnf
    repeat first | (refine ⟨.inl rfl, ?_⟩; conv => whnf) | (refine ⟨.inr rfl, ?_⟩; conv => whnf)
    refine ⟨fun h => absurd h (by decide), fun _ => ?_⟩
    conv => whnf
    repeat first | (refine ⟨.inl rfl, ?_⟩; conv => whnf) | (refine ⟨.inr rfl, ?_⟩; conv => whnf)
    refine call6 hk.1 (fun _ => ?_) (fun h5 => absurd hk.2 (by omega))
    conv => whnf
    repeat first | (refine ⟨.inl rfl, ?_⟩; conv => whnf) | (refine ⟨.inr rfl, ?_⟩; conv => whnf)
    refine call21 (by omega) (.inr rfl) (fun vs h3 h4 => ?_)
    conv => whnf
    repeat first | (refine ⟨.inl rfl, ?_⟩; conv => whnf) | (refine ⟨.inr rfl, ?_⟩; conv => whnf)
    refine same_ilst (edge1 hr h3 h4) (by have := facesL_len (ms := suppsL ms k) hk; omega) ?_
    conv => whnf
    repeat first | (refine ⟨.inl rfl, ?_⟩; conv => whnf) | (refine ⟨.inr rfl, ?_⟩; conv => whnf)
    refine ⟨fun h => absurd h (by decide), fun _ => ?_⟩
    conv => whnf
    repeat first | (refine ⟨.inl rfl, ?_⟩; conv => whnf) | (refine ⟨.inr rfl, ?_⟩; conv => whnf)
    have hf := facesL_len (ms := ms) hk
    have hs := suppsL_len (ms := ms) hk
    refine ⟨⟨rfl, by rw [List.length_map]; show _ < 1000000; omega⟩, ?_⟩
    conv => whnf
    repeat first | (refine ⟨.inl rfl, ?_⟩; conv => whnf) | (refine ⟨.inr rfl, ?_⟩; conv => whnf)
    refine ⟨⟨rfl, ⟨by decide, by rw [List.length_map]; show (0 : Int) ≤ _; omega⟩, by rw [List.length_map]; show _ < 1000000; omega⟩, ?_⟩
    conv => whnf
    exact hn _ ⟨_, _, _, _, rfl⟩

theorem law_ok {P : Program} {w : World} {K : PySem.W.Frag} {h : Heap} {mg : Str → Option Value} (X : K.In h) (G : h.Ns mainGlobals mg) (c : He.SaysD fa fn K) (ex : exB rs ts K = true) :
    ∃ fd : FuncData, mg "law" = some (.ref (He.ga K "law")) ∧ (∀ (s : Shared) (v : Value), BindsTo s fd ⟨[v], []⟩ [("script", v)]) ∧ ∀ base : Heap, K.In base → base.Ns mainGlobals mg → FnOk P w K mg base CX0 8 (He.ga K "law") fd ["script"] (spLaw K) := by
  obtain ⟨fd0, F0⟩ : ∃ fd, FunD K "lies_within" "lies_within" (defArgs (top 13)) (defBody (top 13)) (defScope (top 13)) [] [] (He.ga K "lies_within") fd := c.def_ 0 (d := dd "lies_within" 13) rfl
  have g0 : mg "lies_within" = some (.ref (He.ga K "lies_within")) := He.glo_ok X G (c.fact 0 (f := .glo "lies_within") rfl)
  have b0 : Binds K fd0 ps0 [] := FunD.bindsN F0 fun _ _ _ _ _ _ us hl => match us, hl with | [_, _], _ => rfl
  obtain ⟨fd1, F1⟩ : ∃ fd, FunD K "avoids" "avoids" (defArgs (top 14)) (defBody (top 14)) (defScope (top 14)) [] [] (He.ga K "avoids") fd := c.def_ 1 (d := dd "avoids" 14) rfl
  have g1 : mg "avoids" = some (.ref (He.ga K "avoids")) := He.glo_ok X G (c.fact 1 (f := .glo "avoids") rfl)
  have b1 : Binds K fd1 ps1 [] := FunD.bindsN F1 fun _ _ _ _ _ _ us hl => match us, hl with | [_, _], _ => rfl
  obtain ⟨fd2, F2⟩ : ∃ fd, FunD K "least_masks" "least_masks" (defArgs (top 15)) (defBody (top 15)) (defScope (top 15)) [] [] (He.ga K "least_masks") fd := c.def_ 2 (d := dd "least_masks" 15) rfl
  have g2 : mg "least_masks" = some (.ref (He.ga K "least_masks")) := He.glo_ok X G (c.fact 2 (f := .glo "least_masks") rfl)
  have b2 : Binds K fd2 ps2 [] := FunD.bindsN F2 fun _ _ _ _ _ _ us hl => match us, hl with | [_], _ => rfl
  obtain ⟨fd3, F3⟩ : ∃ fd, FunD K "greatest_masks" "greatest_masks" (defArgs (top 16)) (defBody (top 16)) (defScope (top 16)) [] [] (He.ga K "greatest_masks") fd := c.def_ 3 (d := dd "greatest_masks" 16) rfl
  have g3 : mg "greatest_masks" = some (.ref (He.ga K "greatest_masks")) := He.glo_ok X G (c.fact 3 (f := .glo "greatest_masks") rfl)
  have b3 : Binds K fd3 ps3 [] := FunD.bindsN F3 fun _ _ _ _ _ _ us hl => match us, hl with | [_], _ => rfl
  obtain ⟨fd4, F4⟩ : ∃ fd, FunD K "avoiding_masks" "avoiding_masks" (defArgs (top 17)) (defBody (top 17)) (defScope (top 17)) [] [] (He.ga K "avoiding_masks") fd := c.def_ 4 (d := dd "avoiding_masks" 17) rfl
  have g4 : mg "avoiding_masks" = some (.ref (He.ga K "avoiding_masks")) := He.glo_ok X G (c.fact 4 (f := .glo "avoiding_masks") rfl)
  have b4 : Binds K fd4 ps4 [] := FunD.bindsN F4 fun _ _ _ _ _ _ us hl => match us, hl with | [_, _], _ => rfl
  obtain ⟨fd5, F5⟩ : ∃ fd, FunD K "check_many" "check_many" (defArgs (top 18)) (defBody (top 18)) (defScope (top 18)) [] [] (He.ga K "check_many") fd := c.def_ 5 (d := dd "check_many" 18) rfl
  have g5 : mg "check_many" = some (.ref (He.ga K "check_many")) := He.glo_ok X G (c.fact 5 (f := .glo "check_many") rfl)
  have b5 : Binds K fd5 ps5 [] := FunD.bindsN F5 fun _ _ _ _ _ _ us hl => match us, hl with | [_], _ => rfl
  obtain ⟨fd6, F6⟩ : ∃ fd, FunD K "faces_of" "faces_of" (defArgs (top 19)) (defBody (top 19)) (defScope (top 19)) [] [] (He.ga K "faces_of") fd := c.def_ 6 (d := dd "faces_of" 19) rfl
  have g6 : mg "faces_of" = some (.ref (He.ga K "faces_of")) := He.glo_ok X G (c.fact 6 (f := .glo "faces_of") rfl)
  have b6 : Binds K fd6 ps6 [] := FunD.bindsN F6 fun _ _ _ _ _ _ us hl => match us, hl with | [_, _], _ => rfl
  obtain ⟨fd7, F7⟩ : ∃ fd, FunD K "supports_of" "supports_of" (defArgs (top 20)) (defBody (top 20)) (defScope (top 20)) [] [] (He.ga K "supports_of") fd := c.def_ 7 (d := dd "supports_of" 20) rfl
  have g7 : mg "supports_of" = some (.ref (He.ga K "supports_of")) := He.glo_ok X G (c.fact 7 (f := .glo "supports_of") rfl)
  have b7 : Binds K fd7 ps7 [] := FunD.bindsN F7 fun _ _ _ _ _ _ us hl => match us, hl with | [_, _], _ => rfl
  obtain ⟨fd8, F8⟩ : ∃ fd, FunD K "_law_mix" "_law_mix" (defArgs (top 22)) (defBody (top 22)) (defScope (top 22)) [] [] (He.ga K "_law_mix") fd := c.def_ 8 (d := dd "_law_mix" 22) rfl
  have g8 : mg "_law_mix" = some (.ref (He.ga K "_law_mix")) := He.glo_ok X G (c.fact 8 (f := .glo "_law_mix") rfl)
  have b8 : Binds K fd8 ps8 [] := FunD.bindsN F8 fun _ _ _ _ _ _ us hl => match us, hl with | [_, _], _ => rfl
  obtain ⟨fd9, F9⟩ : ∃ fd, FunD K "_law_store" "_law_store" (defArgs (top 23)) (defBody (top 23)) (defScope (top 23)) [] [] (He.ga K "_law_store") fd := c.def_ 9 (d := dd "_law_store" 23) rfl
  have g9 : mg "_law_store" = some (.ref (He.ga K "_law_store")) := He.glo_ok X G (c.fact 9 (f := .glo "_law_store") rfl)
  have b9 : Binds K fd9 ps9 [] := FunD.bindsN F9 fun _ _ _ _ _ _ us hl => match us, hl with | [_], _ => rfl
  obtain ⟨fd10, F10⟩ : ∃ fd, FunD K "_law_take" "_law_take" (defArgs (top 24)) (defBody (top 24)) (defScope (top 24)) [] [] (He.ga K "_law_take") fd := c.def_ 10 (d := dd "_law_take" 24) rfl
  have g10 : mg "_law_take" = some (.ref (He.ga K "_law_take")) := He.glo_ok X G (c.fact 10 (f := .glo "_law_take") rfl)
  have b10 : Binds K fd10 ps10 [] := FunD.bindsN F10 fun _ _ _ _ _ _ us hl => match us, hl with | [_, _], _ => rfl
  obtain ⟨fd11, F11⟩ : ∃ fd, FunD K "_law_pick" "_law_pick" (defArgs (top 25)) (defBody (top 25)) (defScope (top 25)) [] [] (He.ga K "_law_pick") fd := c.def_ 11 (d := dd "_law_pick" 25) rfl
  have g11 : mg "_law_pick" = some (.ref (He.ga K "_law_pick")) := He.glo_ok X G (c.fact 11 (f := .glo "_law_pick") rfl)
  have b11 : Binds K fd11 ps11 [] := FunD.bindsN F11 fun _ _ _ _ _ _ us hl => match us, hl with | [_, _], _ => rfl
  obtain ⟨fd12, F12⟩ : ∃ fd, FunD K "_law_shuffle" "_law_shuffle" (defArgs (top 26)) (defBody (top 26)) (defScope (top 26)) [] [] (He.ga K "_law_shuffle") fd := c.def_ 12 (d := dd "_law_shuffle" 26) rfl
  have g12 : mg "_law_shuffle" = some (.ref (He.ga K "_law_shuffle")) := He.glo_ok X G (c.fact 12 (f := .glo "_law_shuffle") rfl)
  have b12 : Binds K fd12 ps12 [] := FunD.bindsN F12 fun _ _ _ _ _ _ us hl => match us, hl with | [_, _], _ => rfl
  obtain ⟨fd13, F13⟩ : ∃ fd, FunD K "_law_natural" "_law_natural" (defArgs (top 27)) (defBody (top 27)) (defScope (top 27)) [] [] (He.ga K "_law_natural") fd := c.def_ 13 (d := dd "_law_natural" 27) rfl
  have g13 : mg "_law_natural" = some (.ref (He.ga K "_law_natural")) := He.glo_ok X G (c.fact 13 (f := .glo "_law_natural") rfl)
  have b13 : Binds K fd13 ps13 [] := FunD.bindsN F13 fun _ _ _ _ _ _ us hl => match us, hl with | [_, _], _ => rfl
  obtain ⟨fd14, F14⟩ : ∃ fd, FunD K "_law_unique" "_law_unique" (defArgs (top 28)) (defBody (top 28)) (defScope (top 28)) [] [] (He.ga K "_law_unique") fd := c.def_ 14 (d := dd "_law_unique" 28) rfl
  have g14 : mg "_law_unique" = some (.ref (He.ga K "_law_unique")) := He.glo_ok X G (c.fact 14 (f := .glo "_law_unique") rfl)
  have b14 : Binds K fd14 ps14 [] := FunD.bindsN F14 fun _ _ _ _ _ _ us hl => match us, hl with | [_], _ => rfl
  obtain ⟨fd15, F15⟩ : ∃ fd, FunD K "_law_kind" "_law_kind" (defArgs (top 29)) (defBody (top 29)) (defScope (top 29)) [] [] (He.ga K "_law_kind") fd := c.def_ 15 (d := dd "_law_kind" 29) rfl
  have g15 : mg "_law_kind" = some (.ref (He.ga K "_law_kind")) := He.glo_ok X G (c.fact 15 (f := .glo "_law_kind") rfl)
  have b15 : Binds K fd15 ps15 [] := FunD.bindsN F15 fun _ _ _ _ _ _ us hl => match us, hl with | [_], _ => rfl
  obtain ⟨fd16, F16⟩ : ∃ fd, FunD K "_law_same" "_law_same" (defArgs (top 30)) (defBody (top 30)) (defScope (top 30)) [] [] (He.ga K "_law_same") fd := c.def_ 16 (d := dd "_law_same" 30) rfl
  have g16 : mg "_law_same" = some (.ref (He.ga K "_law_same")) := He.glo_ok X G (c.fact 16 (f := .glo "_law_same") rfl)
  have b16 : Binds K fd16 ps16 [] := FunD.bindsN F16 fun _ _ _ _ _ _ us hl => match us, hl with | [_, _], _ => rfl
  obtain ⟨fd17, F17⟩ : ∃ fd, FunD K "_law_fault" "_law_fault" (defArgs (top 31)) (defBody (top 31)) (defScope (top 31)) [] [] (He.ga K "_law_fault") fd := c.def_ 17 (d := dd "_law_fault" 31) rfl
  have g17 : mg "_law_fault" = some (.ref (He.ga K "_law_fault")) := He.glo_ok X G (c.fact 17 (f := .glo "_law_fault") rfl)
  have b17 : Binds K fd17 ps17 [] := FunD.bindsN F17 fun _ _ _ _ _ _ us hl => match us, hl with | [_], _ => rfl
  obtain ⟨fd18, F18⟩ : ∃ fd, FunD K "_law_within" "_law_within" (defArgs (top 32)) (defBody (top 32)) (defScope (top 32)) [] [] (He.ga K "_law_within") fd := c.def_ 18 (d := dd "_law_within" 32) rfl
  have g18 : mg "_law_within" = some (.ref (He.ga K "_law_within")) := He.glo_ok X G (c.fact 18 (f := .glo "_law_within") rfl)
  have b18 : Binds K fd18 ps18 [] := FunD.bindsN F18 fun _ _ _ _ _ _ us hl => match us, hl with | [_, _], _ => rfl
  obtain ⟨fd19, F19⟩ : ∃ fd, FunD K "_law_faces_due" "_law_faces_due" (defArgs (top 33)) (defBody (top 33)) (defScope (top 33)) [] [] (He.ga K "_law_faces_due") fd := c.def_ 19 (d := dd "_law_faces_due" 33) rfl
  have g19 : mg "_law_faces_due" = some (.ref (He.ga K "_law_faces_due")) := He.glo_ok X G (c.fact 19 (f := .glo "_law_faces_due") rfl)
  have b19 : Binds K fd19 ps19 [] := FunD.bindsN F19 fun _ _ _ _ _ _ us hl => match us, hl with | [_, _], _ => rfl
  obtain ⟨fd20, F20⟩ : ∃ fd, FunD K "_law_supports_due" "_law_supports_due" (defArgs (top 34)) (defBody (top 34)) (defScope (top 34)) [] [] (He.ga K "_law_supports_due") fd := c.def_ 20 (d := dd "_law_supports_due" 34) rfl
  have g20 : mg "_law_supports_due" = some (.ref (He.ga K "_law_supports_due")) := He.glo_ok X G (c.fact 20 (f := .glo "_law_supports_due") rfl)
  have b20 : Binds K fd20 ps20 [] := FunD.bindsN F20 fun _ _ _ _ _ _ us hl => match us, hl with | [_, _], _ => rfl
  obtain ⟨fd21, F21⟩ : ∃ fd, FunD K "_law_edge" "_law_edge" (defArgs (top 35)) (defBody (top 35)) (defScope (top 35)) [] [] (He.ga K "_law_edge") fd := c.def_ 21 (d := dd "_law_edge" 35) rfl
  have g21 : mg "_law_edge" = some (.ref (He.ga K "_law_edge")) := He.glo_ok X G (c.fact 21 (f := .glo "_law_edge") rfl)
  have b21 : Binds K fd21 ps21 [] := FunD.bindsN F21 fun _ _ _ _ _ _ us hl => match us, hl with | [_, _], _ => rfl
  obtain ⟨fd22, F22⟩ : ∃ fd, FunD K "_law_drawn" "_law_drawn" (defArgs (top 36)) (defBody (top 36)) (defScope (top 36)) [] [] (He.ga K "_law_drawn") fd := c.def_ 22 (d := dd "_law_drawn" 36) rfl
  have g22 : mg "_law_drawn" = some (.ref (He.ga K "_law_drawn")) := He.glo_ok X G (c.fact 22 (f := .glo "_law_drawn") rfl)
  have b22 : Binds K fd22 ps22 [] := FunD.bindsN F22 fun _ _ _ _ _ _ us hl => match us, hl with | [_, _], _ => rfl
  obtain ⟨fd23, F23⟩ : ∃ fd, FunD K "_law_both_right" "_law_both_right" (defArgs (top 37)) (defBody (top 37)) (defScope (top 37)) [] [] (He.ga K "_law_both_right") fd := c.def_ 23 (d := dd "_law_both_right" 37) rfl
  have g23 : mg "_law_both_right" = some (.ref (He.ga K "_law_both_right")) := He.glo_ok X G (c.fact 23 (f := .glo "_law_both_right") rfl)
  have b23 : Binds K fd23 ps23 [] := FunD.bindsN F23 fun _ _ _ _ _ _ us hl => match us, hl with | [_, _], _ => rfl
  obtain ⟨fd24, F24⟩ : ∃ fd, FunD K "_law_refused" "_law_refused" (defArgs (top 38)) (defBody (top 38)) (defScope (top 38)) [] [] (He.ga K "_law_refused") fd := c.def_ 24 (d := dd "_law_refused" 38) rfl
  have g24 : mg "_law_refused" = some (.ref (He.ga K "_law_refused")) := He.glo_ok X G (c.fact 24 (f := .glo "_law_refused") rfl)
  have b24 : Binds K fd24 ps24 [] := FunD.bindsN F24 fun _ _ _ _ _ _ us hl => match us, hl with | [_, _, _], _ => rfl
  obtain ⟨fd25, F25⟩ : ∃ fd, FunD K "law" "law" (defArgs (top 39)) (defBody (top 39)) (defScope (top 39)) [] [] (He.ga K "law") fd := c.def_ 25 (d := dd "law" 39) rfl
  have g25 : mg "law" = some (.ref (He.ga K "law")) := He.glo_ok X G (c.fact 25 (f := .glo "law") rfl)
  have b25 : Binds K fd25 ps25 [] := FunD.bindsN F25 fun _ _ _ _ _ _ us hl => match us, hl with | [_], _ => rfl
  obtain ⟨fdI0, FI0⟩ : ∃ fd, FunD K "__init__" "TooMany.__init__" (defArgs (clsFn (top 7) 0)) (defBody (clsFn (top 7) 0)) (defScope (clsFn (top 7) 0)) [] [] (He.ma K (He.ga K "TooMany") "__init__") fd := c.def_ 26 (d := ini "TooMany" "TooMany.__init__" (top 7) 0) rfl
  have bI0 : Binds K fdI0 ["self", "what", "limit"] [] := FunD.bindsN FI0 fun _ _ _ _ _ _ us hl => match us, hl with | [_, _, _], _ => rfl
  have rc0 := exI_rc ex 0 (r := ("TooMany", ["what", "limit"])) rfl
  have gc0 : mg "TooMany" = some (.ref (He.ga K "TooMany")) := He.glo_ok X G (c.fact 32 (f := .glo "TooMany") rfl)
  have cons : ∀ x d, ccons.lookup x = some d → ConV (ctOf K rs) mg x d := (look_cons (con_int (He.int_ok X G (c.fact 36 (f := .int "MOST_ATOMS" 5) rfl))) look_nil)
  have blt : ∀ x ∈ cblt, mg x = none := (mem_cons' (He.free_ok X G (c.fact 38 (f := .free "enumerate") rfl)) (mem_cons' (He.free_ok X G (c.fact 39 (f := .free "range") rfl)) (mem_cons' (He.free_ok X G (c.fact 40 (f := .free "int") rfl)) (mem_cons' (He.free_ok X G (c.fact 41 (f := .free "list") rfl)) (mem_cons' (He.free_ok X G (c.fact 42 (f := .free "isinstance") rfl)) (mem_cons' (He.free_ok X G (c.fact 43 (f := .free "bool") rfl)) (mem_cons' (He.free_ok X G (c.fact 44 (f := .free "str") rfl)) (mem_cons' (He.free_ok X G (c.fact 45 (f := .free "tuple") rfl)) (mem_cons' (He.free_ok X G (c.fact 46 (f := .free "dict") rfl)) (mem_cons' (He.free_ok X G (c.fact 47 (f := .free "sorted") rfl)) (mem_cons' (He.free_ok X G (c.fact 48 (f := .free "len") rfl)) (mem_cons' (He.free_ok X G (c.fact 49 (f := .free "abs") rfl)) (mem_cons' (He.free_ok X G (c.fact 50 (f := .free "any") rfl)) (mem_cons' (He.free_ok X G (c.fact 51 (f := .free "min") rfl)) (mem_cons' (He.free_ok X G (c.fact 52 (f := .free "max") rfl)) (mem_cons' (He.free_ok X G (c.fact 53 (f := .free "sum") rfl)) mem_nil))))))))))))))))
  have fl : ∀ f t cc i, cflds.lookup f = some t → t.lookup cc = some i → ((ctOf K rs).fld cc)[i]? = some f ∧ XfC K ((ctOf K rs).cls cc) ∧ PySem.W.findIn K (.ref ((ctOf K rs).cls cc)) f = some none := fun f t cc i hf => (show ∀ f t, cflds.lookup f = some t → ∀ cc i, t.lookup cc = some i → ((ctOf K rs).fld cc)[i]? = some f ∧ XfC K ((ctOf K rs).cls cc) ∧ PySem.W.findIn K (.ref ((ctOf K rs).cls cc)) f = some none from (look_cons (look_nil) (look_cons (look_nil) (look_cons ((look_cons ⟨rfl, rc0.f, rc0.no _ (by simp)⟩ look_nil)) (look_cons ((look_cons ⟨rfl, rc0.f, rc0.no _ (by simp)⟩ look_nil)) (look_cons (look_nil) (look_cons (look_nil) (look_cons (look_nil) look_nil)))))))) f t hf cc i
  have ix : ∀ t tab, cisx.lookup t = some tab → IsV (ctOf K rs) mg t tab := (look_cons (isv_own (He.glo_ok X G (c.fact 27 (f := .glo "TextError") rfl)) (look_cons ⟨rc0.e, exI_is ex 0 (t := "TextError") (cn := .own "TextError") (bs := [false]) rfl 0 (r := ("TooMany", ["what", "limit"])) rfl rfl⟩ look_nil)) (look_cons (isv_own (He.glo_ok X G (c.fact 28 (f := .glo "UnknownName") rfl)) (look_cons ⟨rc0.e, exI_is ex 1 (t := "UnknownName") (cn := .own "UnknownName") (bs := [false]) rfl 0 (r := ("TooMany", ["what", "limit"])) rfl rfl⟩ look_nil)) (look_cons (isv_own (He.glo_ok X G (c.fact 29 (f := .glo "Taken") rfl)) (look_cons ⟨rc0.e, exI_is ex 2 (t := "Taken") (cn := .own "Taken") (bs := [false]) rfl 0 (r := ("TooMany", ["what", "limit"])) rfl rfl⟩ look_nil)) (look_cons (isv_own (He.glo_ok X G (c.fact 30 (f := .glo "WrongShape") rfl)) (look_cons ⟨rc0.e, exI_is ex 3 (t := "WrongShape") (cn := .own "WrongShape") (bs := [false]) rfl 0 (r := ("TooMany", ["what", "limit"])) rfl rfl⟩ look_nil)) (look_cons (isv_own (He.glo_ok X G (c.fact 31 (f := .glo "BadPlace") rfl)) (look_cons ⟨rc0.e, exI_is ex 4 (t := "BadPlace") (cn := .own "BadPlace") (bs := [false]) rfl 0 (r := ("TooMany", ["what", "limit"])) rfl rfl⟩ look_nil)) (look_cons (isv_own (He.glo_ok X G (c.fact 32 (f := .glo "TooMany") rfl)) (look_cons ⟨rc0.e, exI_is ex 5 (t := "TooMany") (cn := .own "TooMany") (bs := [true]) rfl 0 (r := ("TooMany", ["what", "limit"])) rfl rfl⟩ look_nil)) (look_cons (isv_own (He.glo_ok X G (c.fact 33 (f := .glo "BadPlan") rfl)) (look_cons ⟨rc0.e, exI_is ex 6 (t := "BadPlan") (cn := .own "BadPlan") (bs := [false]) rfl 0 (r := ("TooMany", ["what", "limit"])) rfl rfl⟩ look_nil)) (look_cons (isv_own (He.glo_ok X G (c.fact 34 (f := .glo "BadCode") rfl)) (look_cons ⟨rc0.e, exI_is ex 7 (t := "BadCode") (cn := .own "BadCode") (bs := [false]) rfl 0 (r := ("TooMany", ["what", "limit"])) rfl rfl⟩ look_nil)) (look_cons (isv_own (He.glo_ok X G (c.fact 35 (f := .glo "BadPaper") rfl)) (look_cons ⟨rc0.e, exI_is ex 8 (t := "BadPaper") (cn := .own "BadPaper") (bs := [false]) rfl 0 (r := ("TooMany", ["what", "limit"])) rfl rfl⟩ look_nil)) (look_cons (isv_own (He.glo_ok X G (c.fact 26 (f := .glo "SkipError") rfl)) (look_cons ⟨rc0.e, exI_is ex 9 (t := "SkipError") (cn := .own "SkipError") (bs := [true]) rfl 0 (r := ("TooMany", ["what", "limit"])) rfl rfl⟩ look_nil)) (look_cons (isv_blt (He.free_ok X G (c.fact 37 (f := .free "ValueError") rfl)) (by decide +kernel) (by decide) (look_cons ⟨rc0.e, exI_is ex 10 (t := "ValueError") (cn := .blt "ValueError") (bs := [true]) rfl 0 (r := ("TooMany", ["what", "limit"])) rfl rfl⟩ look_nil)) look_nil)))))))))))
  refine ⟨fd25, g25, fun s v => FunD.bindsA (ps := ["script"]) F25 (fun _ _ _ _ _ _ us hl => match us, hl with | [_], _ => rfl) s [v] rfl, fun base _ _ => ?_⟩
  have R0 : RaiseV (ctOf K rs) P w mg base "TooMany" 0 2 2 := ⟨rfl, 1, _, _, _, by decide, gc0, rc0.o, rc0.i, rc0.t, init2 FI0 ⟨rfl, rfl, rfl, by decide +kernel, rfl, by decide +kernel, by decide +kernel⟩ (by decide +kernel) rc0.o (rc0.no _ (by simp)) (rc0.no _ (by simp)), bI0, (show 2 ≤ 1000 by decide), fo2 rfl (by decide)⟩
  have m_len : mg "len" = none := He.free_ok X G (c.fact 48 (f := .free "len") rfl)
  have m_int : mg "int" = none := He.free_ok X G (c.fact 40 (f := .free "int") rfl)
  have m_abs : mg "abs" = none := He.free_ok X G (c.fact 49 (f := .free "abs") rfl)
  have m_range : mg "range" = none := He.free_ok X G (c.fact 39 (f := .free "range") rfl)
  have m_enumerate : mg "enumerate" = none := He.free_ok X G (c.fact 38 (f := .free "enumerate") rfl)
  have O8 : FnOk P w K mg base (L2N.CX P w) 1 _ _ ["cell", "turn"] (NL.spMix NL.mixV) := ok_mix F8 sc8 m_len m_int m_abs m_range (by decide +kernel) ir8N_eq
  have O10 : Fct (ctOf K rs) Γ P w K mg base "_law_take" 10 2 := fct_take rfl (ok_take (C := (ctOf K rs)) rfl F10 sc10 m_len m_int m_abs m_range O8 g8 F8.kp b8 ir10N_eq) g10 F10.kp b10
  have O9 : FnOk P w K mg base (L2N.CX P w) 2 _ _ ["script"] (spStore K) := ok_store (K := K) (P := P) (w := w) (mg := mg) (base := base) rfl F9 sc9 (by decide +kernel) (by decide +kernel) (by decide +kernel) (by decide +kernel) (by decide +kernel) m_len m_int m_abs m_range m_enumerate O8 g8 F8.kp b8
  have M17X : Mod (ctOf K rs) Γ P w mg base cc17X 1 := ⟨(fun z => absurd (show true = false from z) (by decide)), fun _ => look_nil, cons, blt, fl, ix, (fun z => absurd (show true = false from z) (by decide)), (fun z => absurd (show true = false from z) (by decide))⟩
  have X17 : FctX (ctOf K rs) Γ P w K mg base "_law_fault" 17 2 := ⟨_, _, ps17, fn_vlX M17X F17 sc17 rfl rfl ir17X_eq (fun _ => rfl) val17X, g17, F17.kp, b17⟩
  have M0 : Mod (ctOf K rs) Γ P w mg base cc0 2 := ⟨fun _ => look_nil, (fun z => absurd (show false = true from z) (by decide)), cons, blt, fl, ix, fun _ => (rz_cons (R0.mono (by decide)) rz_nil), fun _ => (look_cons (X17.mono (by decide)) look_nil)⟩
  have O0 : Fct (ctOf K rs) Γ P w K mg base "lies_within" 0 3 := ⟨_, _, ps0, fn_vl M0 F0 sc0 rfl rfl ir0_eq (fun _ => rfl) val0, g0, F0.kp, b0⟩
  have M5 : Mod (ctOf K rs) Γ P w mg base cc5 2 := ⟨fun _ => look_nil, (fun z => absurd (show false = true from z) (by decide)), cons, blt, fl, ix, fun _ => (rz_cons (R0.mono (by decide)) rz_nil), fun _ => (look_cons (X17.mono (by decide)) look_nil)⟩
  have O5 : Fct (ctOf K rs) Γ P w K mg base "check_many" 5 3 := ⟨_, _, ps5, fn_vl M5 F5 sc5 rfl rfl ir5_eq (fun _ => rfl) val5, g5, F5.kp, b5⟩
  have M11 : Mod (ctOf K rs) Γ P w mg base cc11 2 := ⟨fun _ => (look_cons (O10.mono (by decide)) look_nil), (fun z => absurd (show false = true from z) (by decide)), cons, blt, fl, ix, fun _ => (rz_cons (R0.mono (by decide)) rz_nil), fun _ => (look_cons (X17.mono (by decide)) look_nil)⟩
  have O11 : Fct (ctOf K rs) Γ P w K mg base "_law_pick" 11 3 := ⟨_, _, ps11, fn_vl M11 F11 sc11 rfl rfl ir11_eq (fun _ => rfl) val11, g11, F11.kp, b11⟩
  have M12 : Mod (ctOf K rs) Γ P w mg base cc12 2 := ⟨fun _ => (look_cons (O10.mono (by decide)) look_nil), (fun z => absurd (show false = true from z) (by decide)), cons, blt, fl, ix, fun _ => (rz_cons (R0.mono (by decide)) rz_nil), fun _ => (look_cons (X17.mono (by decide)) look_nil)⟩
  have O12 : Fct (ctOf K rs) Γ P w K mg base "_law_shuffle" 12 3 := ⟨_, _, ps12, fn_vl M12 F12 sc12 rfl rfl ir12_eq (fun _ => rfl) val12, g12, F12.kp, b12⟩
  have M13 : Mod (ctOf K rs) Γ P w mg base cc13 2 := ⟨fun _ => (look_cons (O10.mono (by decide)) look_nil), (fun z => absurd (show false = true from z) (by decide)), cons, blt, fl, ix, fun _ => (rz_cons (R0.mono (by decide)) rz_nil), fun _ => (look_cons (X17.mono (by decide)) look_nil)⟩
  have O13 : Fct (ctOf K rs) Γ P w K mg base "_law_natural" 13 3 := ⟨_, _, ps13, fn_vl M13 F13 sc13 rfl rfl ir13_eq (fun _ => rfl) val13, g13, F13.kp, b13⟩
  have M14 : Mod (ctOf K rs) Γ P w mg base cc14 2 := ⟨fun _ => look_nil, (fun z => absurd (show false = true from z) (by decide)), cons, blt, fl, ix, fun _ => (rz_cons (R0.mono (by decide)) rz_nil), fun _ => (look_cons (X17.mono (by decide)) look_nil)⟩
  have O14 : Fct (ctOf K rs) Γ P w K mg base "_law_unique" 14 3 := ⟨_, _, ps14, fn_vl M14 F14 sc14 rfl rfl ir14_eq (fun _ => rfl) val14, g14, F14.kp, b14⟩
  have M15 : Mod (ctOf K rs) Γ P w mg base cc15 2 := ⟨fun _ => look_nil, (fun z => absurd (show false = true from z) (by decide)), cons, blt, fl, ix, fun _ => (rz_cons (R0.mono (by decide)) rz_nil), fun _ => (look_cons (X17.mono (by decide)) look_nil)⟩
  have O15 : Fct (ctOf K rs) Γ P w K mg base "_law_kind" 15 3 := ⟨_, _, ps15, fn_vl M15 F15 sc15 rfl rfl ir15_eq (fun _ => rfl) val15, g15, F15.kp, b15⟩
  have M18 : Mod (ctOf K rs) Γ P w mg base cc18 2 := ⟨fun _ => look_nil, (fun z => absurd (show false = true from z) (by decide)), cons, blt, fl, ix, fun _ => (rz_cons (R0.mono (by decide)) rz_nil), fun _ => (look_cons (X17.mono (by decide)) look_nil)⟩
  have O18 : Fct (ctOf K rs) Γ P w K mg base "_law_within" 18 3 := ⟨_, _, ps18, fn_vl M18 F18 sc18 rfl rfl ir18_eq (fun _ => rfl) val18, g18, F18.kp, b18⟩
  have M1 : Mod (ctOf K rs) Γ P w mg base cc1 3 := ⟨fun _ => (look_cons (O0.mono (by decide)) look_nil), (fun z => absurd (show false = true from z) (by decide)), cons, blt, fl, ix, fun _ => (rz_cons (R0.mono (by decide)) rz_nil), fun _ => (look_cons (X17.mono (by decide)) look_nil)⟩
  have O1 : Fct (ctOf K rs) Γ P w K mg base "avoids" 1 4 := ⟨_, _, ps1, fn_vl M1 F1 sc1 rfl rfl ir1_eq (fun _ => rfl) val1, g1, F1.kp, b1⟩
  have M2 : Mod (ctOf K rs) Γ P w mg base cc2 3 := ⟨fun _ => (look_cons (O0.mono (by decide)) look_nil), (fun z => absurd (show false = true from z) (by decide)), cons, blt, fl, ix, fun _ => (rz_cons (R0.mono (by decide)) rz_nil), fun _ => (look_cons (X17.mono (by decide)) look_nil)⟩
  have O2 : Fct (ctOf K rs) Γ P w K mg base "least_masks" 2 4 := ⟨_, _, ps2, fn_vl M2 F2 sc2 rfl rfl ir2_eq (fun _ => rfl) val2, g2, F2.kp, b2⟩
  have M3 : Mod (ctOf K rs) Γ P w mg base cc3 3 := ⟨fun _ => (look_cons (O0.mono (by decide)) look_nil), (fun z => absurd (show false = true from z) (by decide)), cons, blt, fl, ix, fun _ => (rz_cons (R0.mono (by decide)) rz_nil), fun _ => (look_cons (X17.mono (by decide)) look_nil)⟩
  have O3 : Fct (ctOf K rs) Γ P w K mg base "greatest_masks" 3 4 := ⟨_, _, ps3, fn_vl M3 F3 sc3 rfl rfl ir3_eq (fun _ => rfl) val3, g3, F3.kp, b3⟩
  have M16 : Mod (ctOf K rs) Γ P w mg base cc16 3 := ⟨fun _ => (look_cons (O15.mono (by decide)) look_nil), (fun z => absurd (show false = true from z) (by decide)), cons, blt, fl, ix, fun _ => (rz_cons (R0.mono (by decide)) rz_nil), fun _ => (look_cons (X17.mono (by decide)) look_nil)⟩
  have O16 : Fct (ctOf K rs) Γ P w K mg base "_law_same" 16 4 := ⟨_, _, ps16, fn_vl M16 F16 sc16 rfl rfl ir16_eq (fun _ => rfl) val16, g16, F16.kp, b16⟩
  have M19 : Mod (ctOf K rs) Γ P w mg base cc19 3 := ⟨fun _ => (look_cons (O18.mono (by decide)) look_nil), (fun z => absurd (show false = true from z) (by decide)), cons, blt, fl, ix, fun _ => (rz_cons (R0.mono (by decide)) rz_nil), fun _ => (look_cons (X17.mono (by decide)) look_nil)⟩
  have O19 : Fct (ctOf K rs) Γ P w K mg base "_law_faces_due" 19 4 := ⟨_, _, ps19, fn_vl M19 F19 sc19 rfl rfl ir19_eq (fun _ => rfl) val19, g19, F19.kp, b19⟩
  have M20 : Mod (ctOf K rs) Γ P w mg base cc20 3 := ⟨fun _ => (look_cons (O18.mono (by decide)) look_nil), (fun z => absurd (show false = true from z) (by decide)), cons, blt, fl, ix, fun _ => (rz_cons (R0.mono (by decide)) rz_nil), fun _ => (look_cons (X17.mono (by decide)) look_nil)⟩
  have O20 : Fct (ctOf K rs) Γ P w K mg base "_law_supports_due" 20 4 := ⟨_, _, ps20, fn_vl M20 F20 sc20 rfl rfl ir20_eq (fun _ => rfl) val20, g20, F20.kp, b20⟩
  have M21 : Mod (ctOf K rs) Γ P w mg base cc21 3 := ⟨fun _ => (look_cons (O14.mono (by decide)) (look_cons (O18.mono (by decide)) look_nil)), (fun z => absurd (show false = true from z) (by decide)), cons, blt, fl, ix, fun _ => (rz_cons (R0.mono (by decide)) rz_nil), fun _ => (look_cons (X17.mono (by decide)) look_nil)⟩
  have O21 : Fct (ctOf K rs) Γ P w K mg base "_law_edge" 21 4 := ⟨_, _, ps21, fn_vl M21 F21 sc21 rfl rfl ir21_eq (fun _ => rfl) val21, g21, F21.kp, b21⟩
  have M22 : Mod (ctOf K rs) Γ P w mg base cc22 3 := ⟨fun _ => (look_cons (O10.mono (by decide)) (look_cons (O12.mono (by decide)) (look_cons (O13.mono (by decide)) look_nil))), (fun z => absurd (show false = true from z) (by decide)), cons, blt, fl, ix, fun _ => (rz_cons (R0.mono (by decide)) rz_nil), fun _ => (look_cons (X17.mono (by decide)) look_nil)⟩
  have O22 : Fct (ctOf K rs) Γ P w K mg base "_law_drawn" 22 4 := ⟨_, _, ps22, fn_vl M22 F22 sc22 rfl rfl ir22_eq (fun _ => rfl) val22, g22, F22.kp, b22⟩
  have M4 : Mod (ctOf K rs) Γ P w mg base cc4 4 := ⟨fun _ => (look_cons (O1.mono (by decide)) look_nil), (fun z => absurd (show false = true from z) (by decide)), cons, blt, fl, ix, fun _ => (rz_cons (R0.mono (by decide)) rz_nil), fun _ => (look_cons (X17.mono (by decide)) look_nil)⟩
  have O4 : Fct (ctOf K rs) Γ P w K mg base "avoiding_masks" 4 5 := ⟨_, _, ps4, fn_vl M4 F4 sc4 rfl rfl ir4_eq (fun _ => rfl) val4, g4, F4.kp, b4⟩
  have M7 : Mod (ctOf K rs) Γ P w mg base cc7 4 := ⟨fun _ => (look_cons (O0.mono (by decide)) (look_cons (O2.mono (by decide)) (look_cons (O5.mono (by decide)) look_nil))), (fun z => absurd (show false = true from z) (by decide)), cons, blt, fl, ix, fun _ => (rz_cons (R0.mono (by decide)) rz_nil), fun _ => (look_cons (X17.mono (by decide)) look_nil)⟩
  have O7 : Fct (ctOf K rs) Γ P w K mg base "supports_of" 7 5 := ⟨_, _, ps7, fn_vl M7 F7 sc7 rfl rfl ir7_eq (fun _ => rfl) val7, g7, F7.kp, b7⟩
  have M6 : Mod (ctOf K rs) Γ P w mg base cc6 5 := ⟨fun _ => (look_cons (O3.mono (by decide)) (look_cons (O4.mono (by decide)) (look_cons (O5.mono (by decide)) look_nil))), (fun z => absurd (show false = true from z) (by decide)), cons, blt, fl, ix, fun _ => (rz_cons (R0.mono (by decide)) rz_nil), fun _ => (look_cons (X17.mono (by decide)) look_nil)⟩
  have O6 : Fct (ctOf K rs) Γ P w K mg base "faces_of" 6 6 := ⟨_, _, ps6, fn_vl M6 F6 sc6 rfl rfl ir6_eq (fun _ => rfl) val6, g6, F6.kp, b6⟩
  have M23 : Mod (ctOf K rs) Γ P w mg base cc23 6 := ⟨fun _ => (look_cons (O6.mono (by decide)) (look_cons (O7.mono (by decide)) (look_cons (O16.mono (by decide)) (look_cons (O19.mono (by decide)) (look_cons (O20.mono (by decide)) (look_cons (O21.mono (by decide)) look_nil)))))), (fun z => absurd (show false = true from z) (by decide)), cons, blt, fl, ix, fun _ => (rz_cons (R0.mono (by decide)) rz_nil), fun _ => (look_cons (X17.mono (by decide)) look_nil)⟩
  have O23 : Fct (ctOf K rs) Γ P w K mg base "_law_both_right" 23 7 := ⟨_, _, ps23, fn_vl M23 F23 sc23 rfl rfl ir23_eq (fun _ => rfl) val23, g23, F23.kp, b23⟩
  have M24 : Mod (ctOf K rs) Γ P w mg base cc24 6 := ⟨fun _ => (look_cons (O6.mono (by decide)) (look_cons (O7.mono (by decide)) look_nil)), (fun z => absurd (show false = true from z) (by decide)), cons, blt, fl, ix, fun _ => (rz_cons (R0.mono (by decide)) rz_nil), fun _ => (look_cons (X17.mono (by decide)) look_nil)⟩
  have O24 : Fct (ctOf K rs) Γ P w K mg base "_law_refused" 24 7 := ⟨_, _, ps24, fn_vl M24 F24 sc24 rfl rfl ir24_eq (fun _ => rfl) val24, g24, F24.kp, b24⟩
  have M25 : Mod (ctOf K rs) Γ P w mg base cc25 7 := ⟨fun _ => (look_cons (O11.mono (by decide)) (look_cons (O22.mono (by decide)) (look_cons (O23.mono (by decide)) (look_cons (O24.mono (by decide)) look_nil)))), (fun z => absurd (show false = true from z) (by decide)), cons, blt, fl, ix, fun _ => (rz_cons (R0.mono (by decide)) rz_nil), fun _ => (look_cons (X17.mono (by decide)) look_nil)⟩
  exact to_cx0 <| fn_law (C := (ctOf K rs)) (rest := (defBody (top 39)).tail) M25 F25 sc25 rfl rfl rfl rfl (by decide +kernel) (by decide +kernel) (by decide +kernel) (O9.mono (by decide)) g9 F9.kp b9 ir25_eq val25
end Law
open PySem PySem.W PySem.Calls PyProof.Rows in
theorem law_holds : PySem.Challenge.rw_skipsnought_k20_faces_and_supports.Holds := by
  w_on; o_law
  refine HandSHeadRun.head_any (r := Law.R) (q := view Law.R.prog [39]) (H := Law.hk) (ob := Law.ob) (M := 4000) (loose := Law.loose) (d := HandSHeadRun.topDef Law.R.prog 39) (kwd := []) Law.ob_eq
    (by kernel_rfl) (fun s => by kernel_rfl) Law.run (by kernel_rfl) (by kernel_rfl) (by kernel_rfl) (by rfl) (by first | assumption | decide +kernel) (by decide +kernel) ⟨rfl, rfl, rfl, rfl, rfl, by decide +kernel⟩ ?hw ?hc
  case hw => w_witness2
  case hc =>
    refine L2.walk_ofE (l := PySem.Challenge.rw_skipsnought_k20_faces_and_supports) (n := 63) (k := 8) (x := "script") (CX := L2.CX0) rfl (by decide) (by kernel_rfl) ⟨rfl, by decide, by decide⟩ ?F (fun _ _ _ _ z => z)
    intro w mg fa h Y G hmg0
    obtain ⟨K, KX, c⟩ := Y
    have hmg : mg ("law" : PySem.Str) = some (.ref fa) := by
      have e : (HandSHeadRun.topDef Law.R.prog 39).name = ("law" : PySem.Str) := by kernel_rfl
      rw [← e]
      exact hmg0
    obtain ⟨fd, hg, hb, hF⟩ := Law.law_ok (P := (PySem.Challenge.rw_skipsnought_k20_faces_and_supports).prog) (w := w) KX G c.t.d c.more
    have e := hmg.symm.trans hg
    cases e
    exact ⟨K, fd, VL.spLaw K, KX, hb, fun H a ns hl _ hS => ⟨a, ns, rfl, hS, fun _ => rfl⟩, hF⟩

theorem PySem.Challenge.cw_skipsnought_k20_faces_and_supports_holds : PySem.Challenge.rw_skipsnought_k20_faces_and_supports.Holds :=
  law_holds
