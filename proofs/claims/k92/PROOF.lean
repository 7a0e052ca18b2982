import PyProof.Rows.All
import Wide.All
import OpenK.AllK
import Wide.FinOn
import HandS.ForMost
import HandS.Walk
import HandS.TupAny
import HandS.TupMul
import HandS.Style
import HandS.Flow
import HandS.IsInst
import HandS.More
import HandS.Exc
import HandS.Wide
import KE.GoesEnum
import KE.KMathGC
import PyProof.ReprRoads
import KE.DataMinMax
import HandS.Iter
import HandS.Zip
import KE.GoesZip
import KE.GoesMore
import KE.KDictZip
import KE.KDictList
import HandS.Gcd
import HandS.Head4
import HandS.HeadEnd
import HandS.Defaults
import HandS.Ends
import HandS.HeadHook1
import HandS.HeadHook2
import HandS.Head2
import Lean
import KE.KStateDown
import HandS.Head3
import PySem.Challenge.RW_coinblind_k92_whole_polynomials_and_thei
set_option Elab.async false
set_option linter.all false
section
set_option linter.all false
set_option maxRecDepth 100000
/-! An own small language of Python's: terms with slots in the place of names, values as trees, lists that are owned or given away; what a run gives, as a tree of draws. Nothing of the machine stands here. -/
namespace TP
open PySem

abbrev D := PyData

/-- what a slot holds, what an expression gives: data; a list that nobody else holds; the deck; the script -/
inductive Vl where
  | d (x : D) | own (xs : List D) | deck | scr (ns : List Int)

/-- a run: an end, a draw, an exception (its class, its thing), or nothing is said -/
inductive M (α : Type) where
  | ret (a : α) | draw (n : Int) (k : Int → M α) | any (k : Int → M α) | raise (c : Nat) (x : D) | stuck

namespace M
variable {α β γ : Type}
def bind : M α → (α → M β) → M β
  | ret a, f => f a
  | draw n k, f => draw n fun r => bind (k r) f
  | any k, f => any fun r => bind (k r) f
  | raise c x, _ => raise c x
  | stuck, _ => stuck
def ofOpt : Option α → M α
  | some a => ret a
  | none => stuck
/-- nothing is raised, or nothing is said -/
def nox : M α → M α
  | ret a => ret a
  | draw n k => draw n fun r => nox (k r)
  | any k => any fun r => nox (k r)
  | raise _ _ => stuck
  | stuck => stuck
/-- at every draw: each end is as P says, each exception as R says, nothing is stuck -/
def All (P : α → Prop) (R : Nat → D → Prop) : M α → Prop
  | ret a => P a
  | draw n k => ∀ r : Int, 0 ≤ r → r < n → All P R (k r)
  | any k => ∀ r : Int, All P R (k r)
  | raise c x => R c x
  | stuck => False
@[simp] theorem bind_ret (a : α) (f : α → M β) : (ret a).bind f = f a := rfl
@[simp] theorem bind_stuck (f : α → M β) : (stuck : M α).bind f = stuck := rfl
@[simp] theorem bind_raise (c : Nat) (x : D) (f : α → M β) : (raise c x : M α).bind f = raise c x := rfl
@[simp] theorem bind_draw (n : Int) (k : Int → M α) (f : α → M β) : (draw n k).bind f = draw n fun r => (k r).bind f := rfl
@[simp] theorem bind_any (k : Int → M α) (f : α → M β) : (any k : M α).bind f = any fun r => (k r).bind f := rfl
@[simp] theorem ofOpt_some (a : α) : ofOpt (some a) = ret a := rfl
@[simp] theorem ofOpt_none : ofOpt (none : Option α) = stuck := rfl
theorem bind_assoc (m : M α) (f : α → M β) (g : β → M γ) : (m.bind f).bind g = m.bind fun a => (f a).bind g := by
  induction m with
  | ret a => rfl
  | draw n k ih =>
    show draw n _ = draw n _
    congr 1
    funext r
    exact ih r
  | any k ih =>
    show any _ = any _
    congr 1
    funext r
    exact ih r
  | raise c x => rfl
  | stuck => rfl
theorem all_bind {P : β → Prop} {R : Nat → D → Prop} {f : α → M β} (m : M α) : (m.bind f).All P R ↔ m.All (fun a => (f a).All P R) R := by
  induction m with
  | ret a => exact Iff.rfl
  | draw n k ih => exact ⟨fun h r a b => (ih r).mp (h r a b), fun h r a b => (ih r).mpr (h r a b)⟩
  | any k ih => exact ⟨fun h r => (ih r).mp (h r), fun h r => (ih r).mpr (h r)⟩
  | raise c x => exact Iff.rfl
  | stuck => exact Iff.rfl
theorem All.mono {P P' : α → Prop} {R R' : Nat → D → Prop} {m : M α} (h : m.All P R) (hp : ∀ a, P a → P' a) (hr : ∀ c x, R c x → R' c x) : m.All P' R' := by
  induction m with
  | ret a => exact hp a h
  | draw n k ih => exact fun r a b => ih r (h r a b)
  | any k ih => exact fun r => ih r (h r)
  | raise c x => exact hr c x h
  | stuck => exact h
@[simp] theorem nox_ret (a : α) : (ret a).nox = ret a := rfl
theorem all_nox {P : α → Prop} {R R' : Nat → D → Prop} {m : M α} (h : m.nox.All P R) : m.All P R' := by
  induction m with
  | ret a => exact h
  | draw n k ih => exact fun r a b => ih r (h r a b)
  | any k ih => exact fun r => ih r (h r)
  | raise c x => exact h.elim
  | stuck => exact h.elim
theorem nox_all {P : α → Prop} {R R' : Nat → D → Prop} {m : M α} (h : m.All P fun _ _ => False) : m.nox.All P R' := by
  induction m with
  | ret a => exact h
  | draw n k ih => exact fun r a b => ih r (h r a b)
  | any k ih => exact fun r => ih r (h r)
  | raise c x => exact h.elim
  | stuck => exact h.elim
theorem all_ofOpt {P : α → Prop} {R : Nat → D → Prop} {o : Option α} (h : (ofOpt o).All P R) : ∃ a, o = some a ∧ P a := by
  cases o with
  | none => exact h.elim
  | some a => exact ⟨a, rfl, h⟩
end M

inductive Op where
  | add | sub | mul | fdiv | mod | pow | shl | shr
  deriving DecidableEq
inductive Cm where
  | eq | ne | lt | le | gt | ge | isN | notN | inn | notIn
  deriving DecidableEq
inductive Ty where
  | int | bool | str | tuple | list | dict
  deriving DecidableEq
/-- built-in functions (list(zip(a, b)) as one) -/
inductive Bi where
  | abs | max2 | min2 | int | len | list | tuple | sum | all | any | maxL | minL | repr | str | comb | listZip | sorted
  deriving DecidableEq

mutual
inductive Tg where
  | nm (i : Nat) | tp (ts : Tgs)
inductive Tgs where
  | nil | cons (t : Tg) (ts : Tgs)
end

mutual
inductive Ex where
  | var (i : Nat) | bor (i : Nat)
  | int (i : Int) | str (x : Str) | bl (b : Bool) | non
  | glob (x : Str) (v : D)
  | bin (o : Op) (a b : Ex) | neg (a : Ex) | not (a : Ex)
  | and (a b : Ex) | or (a b : Ex)
  | cmp (o : Cm) (a b : Ex) | chain (o u : Cm) (a b c : Ex)
  | ife (c a b : Ex)
  | tup (es : Exs) | lst (es : Exs)
  | idx (a i : Ex) | slc (a : Ex) (lo hi : Exs) | rev (a : Ex)
  | call (f : Nat) (es : Exs) | callK (f : Nat) (es kes : Exs) (ks : List Nat)
  | bi (b : Bi) (es : Exs)
  | isin (a : Ex) (ts : List Ty)
  | pop (i : Nat) | popAt (i : Nat) (e : Ex)
  | comp (e : Ex) (t : Tg) (it : It) (cs : Exs) (own : List Nat)
  | dict0 | deckGet (i : Nat) (w : Bool) | deckNew (e : Ex) (m : Nat) (d : Int) | scrCut (i : Nat) (n : Nat)
inductive Exs where
  | nil | cons (e : Ex) (es : Exs)
inductive It where
  | seq (e : Ex) | rng1 (a : Ex) | rng2 (a b : Ex) | rng3 (a b c : Ex) | zip (a b : Ex) | enum (a : Ex)
end

mutual
inductive St where
  | asg (i : Nat) (e : Ex) | asgT (t : Tg) (e : Ex) | par (is : List Nat) (es : Exs)
  | aug (i : Nat) (o : Op) (e : Ex)
  | setIx (i : Nat) (a b : Ex) | append (i : Nat) (e : Ex) | extend (i : Nat) (e : Ex)
  | expr (e : Ex) | ret (e : Ex) | retN
  | ite (c : Ex) (a b : Sts) | whil (c : Ex) (b : Sts) | for_ (t : Tg) (it : It) (b : Sts)
  | raise (c : Nat) (e : Ex) | deckPut (i : Nat) (w : Bool) (e : Ex) | deckPop (i j m : Nat) (a b : Sts) | never | pass | brk | cont
inductive Sts where
  | nil | cons (s : St) (r : Sts)
end

abbrev S := List (Option Vl)
def gt (s : S) (i : Nat) : Option Vl := s.getD i none

def Vl.frz : Vl → Option D
  | .d x => some x
  | .own xs => some (.list xs)
  | _ => none
def Vl.arg : Vl → Vl
  | .own xs => .d (.list xs)
  | v => v

inductive Opr where
  | dt (x : D) | sl (i : Nat)
def res (s : S) : Opr → Option D
  | .dt x => some x
  | .sl i => (gt s i).bind Vl.frz

/-! ### what the operators do with data -/
def lay (x : D) : Bool := SeqAt.shaped x
def flatD : D → Bool
  | .none | .bool _ | .int _ | .str _ => true
  | _ => false
def inD (x : D) (xs : List D) : Option Bool := if flatD x && xs.all flatD then some (xs.any fun y => PyData.eqv y x) else none
def big1 (i j : Int) : Prop := IntMulOk i j
instance (i j : Int) : Decidable (big1 i j) := inferInstanceAs (Decidable (¬ _))
def big2 (j : Int) : Prop := 0 < j ∧ j.natAbs.log2 < 9000
instance (j : Int) : Decidable (big2 j) := inferInstanceAs (Decidable (_ ∧ _))
def pow1 (i j : Int) : Prop := 0 ≤ j ∧ j ≤ 1000000 ∧ i.natAbs < 2 ^ 64
instance (i j : Int) : Decidable (pow1 i j) := inferInstanceAs (Decidable (_ ∧ _))
def rep {α : Type} (xs : List α) (k : Int) : List α := (List.replicate k.toNat xs).flatten
def binD : Op → D → D → Option Vl
  | .add, .int i, .int j => some (.d (.int (i + j)))
  | .add, .tuple xs, .tuple ys => if xs.length + ys.length ≤ 16777216 then some (.d (.tuple (xs ++ ys))) else none
  | .add, .list xs, .list ys => if xs.length + ys.length ≤ 16777216 then some (.own (xs ++ ys)) else none
  | .sub, .int i, .int j => some (.d (.int (i - j)))
  | .mul, .int i, .int j => if big1 i j then some (.d (.int (i * j))) else none
  | .mul, .list xs, .int k => if xs.length * k.toNat ≤ 16777216 ∧ -(2 ^ 63) ≤ k ∧ k < 2 ^ 63 then some (.own (rep xs k)) else none
  | .mul, .tuple xs, .int k => if (xs = [] ∨ k = 1) ∧ -1000 ≤ k ∧ k ≤ 1000 then some (.d (.tuple xs)) else if xs ≠ [] ∧ 2 ≤ k ∧ k ≤ 1000 ∧ xs.length ≤ 1000 then some (.d (.tuple (rep xs k))) else none
  | .fdiv, .int i, .int j => if big2 j then some (.d (.int (i / j))) else none
  | .mod, .int i, .int j => if 0 < j then some (.d (.int (i % j))) else none
  | .pow, .int i, .int j => if pow1 i j then some (.d (.int (i ^ j.toNat))) else none
  | .shl, .int i, .int j => if pow1 i j then some (.d (.int (i * 2 ^ j.toNat))) else none
  | .shr, .int i, .int j => if 0 ≤ j then some (.d (.int (i / 2 ^ j.toNat))) else none
  | _, _, _ => none
def isN : D → Bool
  | .none => true
  | _ => false
def bothS : D → D → Bool
  | .str _, .str _ => true
  | _, _ => false
def cmpD : Cm → D → D → Option Bool
  | .eq, x, y => if (lay x && lay y) || bothS x y then some (PyData.eqv x y) else none
  | .ne, x, y => if (lay x && lay y) || bothS x y then some (!PyData.eqv x y) else none
  | .lt, .int i, .int j => some (decide (i < j))
  | .le, .int i, .int j => some (decide (i ≤ j))
  | .gt, .int i, .int j => some (decide (j < i))
  | .ge, .int i, .int j => some (decide (j ≤ i))
  | .isN, x, .none => some (isN x)
  | .notN, x, .none => some (!isN x)
  | .inn, x, .list ys => inD x ys
  | .inn, x, .tuple ys => inD x ys
  | .notIn, x, .list ys => (inD x ys).map (!·)
  | .notIn, x, .tuple ys => (inD x ys).map (!·)
  | _, _, _ => none
def truth : D → Option Bool
  | .none => some false
  | .bool b => some b
  | .int i => some (i != 0)
  | .str x => if x.length ≤ 16777216 then some ((x.length : Int) != 0) else none
  | .list xs => some (!xs.isEmpty)
  | .tuple xs => some (!xs.isEmpty)
  | .dict kvs => if kvs.isEmpty then some false else none
def ixD : D → D → Option D
  | .list xs, .int i => L2.atI xs i
  | .tuple xs, .int i => L2.atI xs i
  | _, _ => none
def cut {α : Type} (xs : List α) (lo hi : Option Int) : List α := (xs.drop (HT.sIx xs.length 0 lo)).take (HT.sIx xs.length xs.length hi - HT.sIx xs.length 0 lo)
def slcD (x : D) (lo hi : Option Int) : Option Vl := match x with
  | .list xs => some (.own (cut xs lo hi))
  | .tuple xs => some (.d (.tuple (cut xs lo hi)))
  | _ => none
def revD : D → Option Vl
  | .list xs => some (.own xs.reverse)
  | .tuple xs => some (.d (.tuple xs.reverse))
  | _ => none
def isT : Ty → D → Bool
  | .int, .int _ => true
  | .int, .bool _ => true
  | .bool, .bool _ => true
  | .str, .str _ => true
  | .tuple, .tuple _ => true
  | .list, .list _ => true
  | .dict, .dict _ => true
  | _, _ => false
def isinD (ts : List Ty) (x : D) : Bool := ts.any fun t => isT t x
def intsD : List D → Option (List Int)
  | [] => some []
  | .int i :: r => (intsD r).map (i :: ·)
  | _ :: _ => none
def boolsD : List D → Option (List Bool)
  | [] => some []
  | .bool b :: r => (boolsD r).map (b :: ·)
  | _ :: _ => none
def seqD : D → Option (List D)
  | .list xs => some xs
  | .tuple xs => some xs
  | _ => none
/-- n over k: own text, by the rows of Pascal -/
def choose : Nat → Nat → Nat
  | _, 0 => 1
  | 0, _ + 1 => 0
  | n + 1, k + 1 => choose n k + choose n (k + 1)
def maxI : List Int → Int
  | [] => 0
  | x :: r => r.foldl (fun a b => if b > a then b else a) x
def minI : List Int → Int
  | [] => 0
  | x :: r => r.foldl (fun a b => if b < a then b else a) x
def pairsD (xs ys : List D) : List D := List.zipWith (fun x y => .tuple [x, y]) xs ys
def biD : Bi → List D → Option Vl
  | .abs, [.int i] => some (.d (.int (if i < 0 then -i else i)))
  | .max2, [.int i, .int j] => some (.d (.int (if j > i then j else i)))
  | .min2, [.int i, .int j] => some (.d (.int (if j < i then j else i)))
  | .int, [.int i] => some (.d (.int i))
  | .int, [.bool b] => some (.d (.int (if b then 1 else 0)))
  | .len, [.list xs] => some (.d (.int xs.length))
  | .len, [.tuple xs] => some (.d (.int xs.length))
  | .list, [.list xs] => some (.own xs)
  | .list, [.tuple xs] => some (.own xs)
  | .tuple, [.list xs] => some (.d (.tuple xs))
  | .tuple, [.tuple xs] => some (.d (.tuple xs))
  | .sum, [.list xs] => (intsD xs).map fun ns => .d (.int ns.sum)
  | .all, [.list xs] => (boolsD xs).map fun bs => .d (.bool (bs.all id))
  | .any, [.list xs] => (boolsD xs).map fun bs => .d (.bool (bs.any id))
  | .maxL, [.list xs] => (intsD xs).bind fun ns => if ns.isEmpty then none else some (.d (.int (maxI ns)))
  | .minL, [.list xs] => (intsD xs).bind fun ns => if ns.isEmpty then none else some (.d (.int (minI ns)))
  | .maxL, [.tuple xs] => (intsD xs).bind fun ns => if ns.isEmpty then none else some (.d (.int (maxI ns)))
  | .minL, [.tuple xs] => (intsD xs).bind fun ns => if ns.isEmpty then none else some (.d (.int (minI ns)))
  | .len, [.str x] => if x.length ≤ 16777216 then some (.d (.int x.length)) else none
  | .repr, [x] => if x.showable && decide (x.shown.length ≤ 16777216) && decide (x.depth ≤ 64) then some (.d (.str x.shown)) else none
  | .str, [.int i] => if i.natAbs.log2 < 1920 then some (.d (.str (toString i))) else none
  | .comb, [.int i, .int j] => if 0 ≤ i ∧ 0 ≤ j ∧ i ≤ 1000 ∧ j ≤ 1000 then some (.d (.int (choose i.toNat j.toNat))) else none
  | .listZip, [x, y] => (seqD x).bind fun xs => (seqD y).bind fun ys => if min xs.length ys.length < 16777216 then some (.own (pairsD xs ys)) else none
  | _, _ => none

/-! ### runs -/
def isBor : Ex → Option Nat
  | .bor i => some i
  | _ => none
def isVar : Ex → Option Nat
  | .var i => some i
  | _ => none
def rdVar (i : Nat) (s : S) : M (Vl × S) := match gt s i with
  | some (.d x) => .ret (.d x, s)
  | some (.own xs) => .ret (.d (.list xs), s.set i (some (.d (.list xs))))
  | some .deck => .ret (.deck, s)
  | some (.scr ns) => .ret (.scr ns, s)
  | none => .stuck
/-- a value given away -/
def fz (m : M (Vl × S)) : M (D × S) := m.bind fun r => (M.ofOpt r.1.frz).bind fun x => .ret (x, r.2)
/-- an operand: a name's list is looked at, not given away -/
def oper (o : Option Nat) (f : S → M (Vl × S)) (s : S) : M (Opr × S) := match o with
  | some i => (M.ofOpt ((gt s i).bind Vl.frz)).bind fun _ => .ret (.sl i, s)
  | none => (fz (f s)).bind fun r => .ret (.dt r.1, r.2)
def tst (m : M (Opr × S)) : M (Bool × S) := m.bind fun r => (M.ofOpt ((res r.2 r.1).bind truth)).bind fun b => .ret (b, r.2)
mutual
def asg : Tg → D → S → Option S
  | .nm i, x, s => some (s.set i (some (.d x)))
  | .tp ts, .tuple xs, s => asgs ts xs s
  | .tp _, _, _ => none
def asgs : Tgs → List D → S → Option S
  | .nil, [], s => some s
  | .cons t ts, x :: xs, s => (asg t x s).bind fun s1 => asgs ts xs s1
  | _, _, _ => none
end
def wipeS (own : List Nat) (s : S) : S := own.foldl (fun s i => s.set i none) s
def keepD : Option Vl → Option Vl
  | some (.d x) => some (.d x)
  | _ => none
def backS (own : List Nat) (s0 s : S) : S := own.foldl (fun s i => s.set i (keepD (gt s0 i))) s
def compM (own : List Nat) (tg : D → S → Option S) (c : S → M (Bool × S)) (e : S → M (Vl × S)) : List D → S → List D → M (List D × S)
  | [], s, acc => .ret (acc, s)
  | x :: r, s, acc => (M.ofOpt (tg x s)).bind fun s1 => (c s1).bind fun q => match q.1 with
    | true => (fz (e q.2)).bind fun p => compM own tg c e r (wipeS own p.2) (acc ++ [p.1])
    | false => compM own tg c e r (wipeS own q.2) acc
def rngD (lo : Int) (n : Nat) (st : Int) : List D := (List.range n).map fun (k : Nat) => .int (lo + (k : Int) * st)
def enumD (xs : List D) : List D := xs.zipIdx.map fun p => .tuple [.int (p.2 : Nat), p.1]
def intD : D → Option Int
  | .int i => some i
  | _ => none
def isOwn : Option Vl → Option (List D)
  | some (.own xs) => some xs
  | _ => none
def intV : Option Vl → Option Int
  | some (.d (.int i)) => some i
  | _ => none
def lstD : D → Option (List D)
  | .list xs => some xs
  | _ => none
def isDeck : Option Vl → Option Unit
  | some .deck => some ()
  | _ => none
def isScr : Option Vl → Option (List Int)
  | some (.scr ns) => some ns
  | _ => none
/-- what a deck is made of: a list of ints of one's own, two ints -/
def deckOk : Vl → Option Unit
  | .own xs => if xs.length ≤ 63 then (intsD xs).map fun _ => () else none
  | _ => none
def mx2 (m : Int) : Int := if m > 2 then m else 2
def mxOk (m : Int) : Option Unit := if (mx2 m).natAbs.log2 < 9000 then some () else none
def augD : Op → Int → Int → Option Int
  | .add, x, y => some (x + y)
  | .sub, x, y => some (x - y)
  | _, _, _ => none
/-- a place that pop takes -/
def popIx (n : Nat) (k : Int) : Option Nat := if -(2 ^ 63) ≤ k ∧ k < 2 ^ 63 then L2.ixN n k else none
def small (i : Int) : Prop := -1000000 ≤ i ∧ i ≤ 1000000
instance (i : Int) : Decidable (small i) := inferInstanceAs (Decidable (_ ∧ _))
def rng1D : D → Option (List D)
  | .int n => if small n then some (rngD 0 n.toNat 1) else none
  | _ => none
def rng2D : D → D → Option (List D)
  | .int i, .int j => if small i ∧ small j then some (rngD i (j - i).toNat 1) else none
  | _, _ => none
def rng3D : D → D → D → Option (List D)
  | .int i, .int j, .int c => if small i ∧ small j ∧ c = -1 then some (rngD i (i - j).toNat (-1)) else none
  | _, _, _ => none
def resL (s : S) : List Opr → Option (List D)
  | [] => some []
  | o :: r => (res s o).bind fun x => (resL s r).map (x :: ·)
def Exs.len : Exs → Nat
  | .nil => 0
  | .cons _ r => r.len + 1
/-- positional values vs, keywords' values ws: ks tells each parameter's place in vs ++ ws -/
def order {α : Type} (ks : List Nat) (l : List α) : List α := ks.filterMap fun k => l[k]?
mutual
def ev (G : Nat → List Vl → M Vl) : Ex → S → M (Vl × S)
  | .var i, s => rdVar i s
  | .bor i, s => rdVar i s
  | .int i, s => .ret (.d (.int i), s)
  | .str x, s => .ret (.d (.str x), s)
  | .bl b, s => .ret (.d (.bool b), s)
  | .non, s => .ret (.d .none, s)
  | .dict0, s => .ret (.d (.dict []), s)
  | .deckGet i _, s => (M.ofOpt (isDeck (gt s i))).bind fun _ => .any fun r => .ret (.d (.int r), s)
  | .deckNew e m _, s => (ev G e s).bind fun r => (M.ofOpt (deckOk r.1)).bind fun _ => (M.ofOpt (intV (gt r.2 m))).bind fun _ => .ret (.deck, r.2)
  | .scrCut i n, s => (M.ofOpt (isScr (gt s i))).bind fun ns => .ret (.own ((ns.take n).map .int), s)
  | .glob _ v, s => .ret (.d v, s)
  | .bin o a b, s => (oper (isBor a) (ev G a) s).bind fun r => (oper (isBor b) (ev G b) r.2).bind fun q => (M.ofOpt ((res q.2 r.1).bind fun x => (res q.2 q.1).bind fun y => binD o x y)).bind fun v => .ret (v, q.2)
  | .neg a, s => (oper (isBor a) (ev G a) s).bind fun r => match res r.2 r.1 with
    | some (.int i) => .ret (.d (.int (-i)), r.2)
    | _ => .stuck
  | .not a, s => (tst (oper (isBor a) (ev G a) s)).bind fun r => .ret (.d (.bool (!r.1)), r.2)
  | .and a b, s => (fz (ev G a s)).bind fun r => (M.ofOpt (truth r.1)).bind fun t => match t with
    | true => ev G b r.2
    | false => .ret (.d r.1, r.2)
  | .or a b, s => (fz (ev G a s)).bind fun r => (M.ofOpt (truth r.1)).bind fun t => match t with
    | true => .ret (.d r.1, r.2)
    | false => ev G b r.2
  | .cmp o a b, s => (oper (isBor a) (ev G a) s).bind fun r => (oper (isBor b) (ev G b) r.2).bind fun q => (M.ofOpt ((res q.2 r.1).bind fun x => (res q.2 q.1).bind fun y => cmpD o x y)).bind fun t => .ret (.d (.bool t), q.2)
  | .chain o u a b c, s => (oper (isBor a) (ev G a) s).bind fun r => (oper (isBor b) (ev G b) r.2).bind fun q => (M.ofOpt ((res q.2 r.1).bind fun x => (res q.2 q.1).bind fun y => cmpD o x y)).bind fun t => match t with
    | true => (oper (isBor c) (ev G c) q.2).bind fun p => (M.ofOpt ((res p.2 q.1).bind fun y => (res p.2 p.1).bind fun z => cmpD u y z)).bind fun t => .ret (.d (.bool t), p.2)
    | false => .ret (.d (.bool false), q.2)
  | .ife c a b, s => (tst (oper (isBor c) (ev G c) s)).bind fun r => match r.1 with
    | true => ev G a r.2
    | false => ev G b r.2
  | .tup es, s => (evD G es s).bind fun r => .ret (.d (.tuple r.1), r.2)
  | .lst es, s => (evD G es s).bind fun r => .ret (.own r.1, r.2)
  | .idx a i, s => (oper (isBor a) (ev G a) s).bind fun r => (oper (isBor i) (ev G i) r.2).bind fun q => (M.ofOpt ((res q.2 r.1).bind fun x => (res q.2 q.1).bind fun y => ixD x y)).bind fun v => .ret (.d v, q.2)
  | .slc a lo hi, s => (oper (isBor a) (ev G a) s).bind fun r => (evP G lo r.2).bind fun q => (evP G hi q.2).bind fun p => (M.ofOpt ((res p.2 r.1).bind fun x => slcD x q.1 p.1)).bind fun v => .ret (v, p.2)
  | .rev a, s => (oper (isBor a) (ev G a) s).bind fun r => (M.ofOpt ((res r.2 r.1).bind revD)).bind fun v => .ret (v, r.2)
  | .call f es, s => (evV G es s).bind fun r => (G f r.1).bind fun v => .ret (v, r.2)
  | .callK f es kes ks, s => (evV G es s).bind fun r => (evV G kes r.2).bind fun q => (G f (order ks (r.1 ++ q.1))).bind fun v => .ret (v, q.2)
  | .bi b es, s => (evO G es s).bind fun r => (M.ofOpt ((resL r.2 r.1).bind (biD b))).bind fun v => .ret (v, r.2)
  | .isin a ts, s => (oper (isBor a) (ev G a) s).bind fun r => (M.ofOpt (res r.2 r.1)).bind fun x => .ret (.d (.bool (isinD ts x)), r.2)
  | .pop i, s => (M.ofOpt (isOwn (gt s i))).bind fun xs => (M.ofOpt xs.getLast?).bind fun x => .ret (.d x, s.set i (some (.own xs.dropLast)))
  | .popAt i e, s => (M.ofOpt (isOwn (gt s i))).bind fun _ => (fz (ev G e s)).bind fun r => (M.ofOpt (isOwn (gt r.2 i))).bind fun xs => (M.ofOpt (intD r.1)).bind fun k => (M.ofOpt (popIx xs.length k)).bind fun j => (M.ofOpt xs[j]?).bind fun x => .ret (.d x, r.2.set i (some (.own (xs.eraseIdx j))))
  | .comp e t it cs own, s => (evI G it s).bind fun r => (M.ofOpt (if r.1.length ≤ 16777216 then some () else none)).bind fun _ => (compM own (asg t) (evC G cs) (ev G e) r.1 (wipeS own r.2) []).nox.bind fun q => .ret (.own q.1, backS own r.2 q.2)
/-- data, given away -/
def evD (G : Nat → List Vl → M Vl) : Exs → S → M (List D × S)
  | .nil, s => .ret ([], s)
  | .cons e es, s => (fz (ev G e s)).bind fun r => (evD G es r.2).bind fun q => .ret (r.1 :: q.1, q.2)
/-- operands -/
def evO (G : Nat → List Vl → M Vl) : Exs → S → M (List Opr × S)
  | .nil, s => .ret ([], s)
  | .cons e es, s => (oper (isBor e) (ev G e) s).bind fun r => (evO G es r.2).bind fun q => .ret (r.1 :: q.1, q.2)
/-- arguments -/
def evV (G : Nat → List Vl → M Vl) : Exs → S → M (List Vl × S)
  | .nil, s => .ret ([], s)
  | .cons e es, s => (ev G e s).bind fun r => (evV G es r.2).bind fun q => .ret (r.1.arg :: q.1, q.2)
/-- a slice's part -/
def evP (G : Nat → List Vl → M Vl) : Exs → S → M (Option Int × S)
  | .nil, s => .ret (none, s)
  | .cons e _, s => (fz (ev G e s)).bind fun r => (M.ofOpt (intD r.1)).bind fun i => .ret (some i, r.2)
/-- a comprehension's test, if there is one -/
def evC (G : Nat → List Vl → M Vl) : Exs → S → M (Bool × S)
  | .nil, s => .ret (true, s)
  | .cons e _, s => tst (oper (isBor e) (ev G e) s)
/-- what is walked -/
def evI (G : Nat → List Vl → M Vl) : It → S → M (List D × S)
  | .seq e, s => (fz (ev G e s)).bind fun r => (M.ofOpt (seqD r.1)).bind fun xs => .ret (xs, r.2)
  | .rng1 a, s => (fz (ev G a s)).bind fun r => (M.ofOpt (rng1D r.1)).bind fun xs => .ret (xs, r.2)
  | .rng2 a b, s => (fz (ev G a s)).bind fun r => (fz (ev G b r.2)).bind fun q => (M.ofOpt (rng2D r.1 q.1)).bind fun xs => .ret (xs, q.2)
  | .rng3 a b c, s => (fz (ev G a s)).bind fun r => (fz (ev G b r.2)).bind fun q => (fz (ev G c q.2)).bind fun p => (M.ofOpt (rng3D r.1 q.1 p.1)).bind fun xs => .ret (xs, p.2)
  | .zip a b, s => (fz (ev G a s)).bind fun r => (fz (ev G b r.2)).bind fun q => (M.ofOpt ((seqD r.1).bind fun xs => (seqD q.1).map fun ys => pairsD xs ys)).bind fun xs => .ret (xs, q.2)
  | .enum a, s => (fz (ev G a s)).bind fun r => (M.ofOpt (seqD r.1)).bind fun xs => .ret (enumD xs, r.2)
end

inductive Fl where
  | nx (s : S) | rt (v : Vl) | bk (s : S) | ct (s : S)
def whileM (c : S → M (Bool × S)) (b : S → M Fl) : Nat → S → M Fl
  | 0, _ => .stuck
  | n + 1, s => (c s).bind fun r => match r.1 with
    | true => (b r.2).bind fun f => match f with
      | .nx s => whileM c b n s
      | .ct s => whileM c b n s
      | .bk s => .ret (.nx s)
      | .rt v => .ret (.rt v)
    | false => .ret (.nx r.2)
def forM (tg : D → S → Option S) (b : S → M Fl) : List D → S → M Fl
  | [], s => .ret (.nx s)
  | x :: r, s => (M.ofOpt (tg x s)).bind fun s1 => (b s1).bind fun f => match f with
    | .nx s => forM tg b r s
    | .ct s => forM tg b r s
    | .bk s => .ret (.nx s)
    | .rt v => .ret (.rt v)
def setAll : List Nat → List Vl → S → S
  | i :: is, v :: vs, s => setAll is vs (s.set i (some v))
  | _, _, s => s
/-- values that are stored, owned ones too -/
def evW (G : Nat → List Vl → M Vl) : Exs → S → M (List Vl × S)
  | .nil, s => .ret ([], s)
  | .cons e es, s => (ev G e s).bind fun r => (evW G es r.2).bind fun q => .ret (r.1 :: q.1, q.2)
mutual
def exec (n : Nat) (G : Nat → List Vl → M Vl) : St → S → M Fl
  | .asg i e, s => (ev G e s).bind fun r => .ret (.nx (r.2.set i (some r.1)))
  | .asgT t e, s => (fz (ev G e s)).bind fun r => (M.ofOpt (TP.asg t r.1 r.2)).bind fun s => .ret (.nx s)
  | .par is es, s => (evW G es s).bind fun r => .ret (.nx (setAll is r.1 r.2))
  | .aug i o e, s => (M.ofOpt (intV (gt s i))).bind fun x => (fz (ev G e s)).bind fun r => (M.ofOpt (intD r.1)).bind fun y => (M.ofOpt (augD o x y)).bind fun z => .ret (.nx (r.2.set i (some (.d (.int z)))))
  | .setIx i a b, s => (fz (ev G b s)).bind fun r => (M.ofOpt (isOwn (gt r.2 i))).bind fun _ => (fz (ev G a r.2)).bind fun q => (M.ofOpt (isOwn (gt q.2 i))).bind fun xs => (M.ofOpt (intD q.1)).bind fun k => (M.ofOpt (L2.ixN xs.length k)).bind fun j => .ret (.nx (q.2.set i (some (.own (xs.set j r.1)))))
  | .append i e, s => (M.ofOpt (isOwn (gt s i))).bind fun _ => (fz (ev G e s)).bind fun r => (M.ofOpt (isOwn (gt r.2 i))).bind fun xs => (M.ofOpt (if xs.length < 16777216 then some () else none)).bind fun _ => .ret (.nx (r.2.set i (some (.own (xs ++ [r.1])))))
  | .extend i e, s => (M.ofOpt (isOwn (gt s i))).bind fun _ => (fz (ev G e s)).bind fun r => (M.ofOpt (isOwn (gt r.2 i))).bind fun xs => (M.ofOpt (lstD r.1)).bind fun ys => (M.ofOpt (if xs.length + ys.length ≤ 16777216 then some () else none)).bind fun _ => .ret (.nx (r.2.set i (some (.own (xs ++ ys)))))
  | .expr e, s => (ev G e s).bind fun r => .ret (.nx r.2)
  | .ret e, s => match isVar e with
    | some i => (M.ofOpt (gt s i)).bind fun v => .ret (.rt v)
    | none => (ev G e s).bind fun r => .ret (.rt r.1)
  | .retN, _ => .ret (.rt (.d .none))
  | .ite c a b, s => (tst (oper (isBor c) (ev G c) s)).bind fun r => match r.1 with
    | true => execs n G a r.2
    | false => execs n G b r.2
  | .whil c b, s => whileM (fun s => tst (oper (isBor c) (ev G c) s)) (execs n G b) n s
  | .for_ t it b, s => (evI G it s).bind fun r => forM (TP.asg t) (execs n G b) r.1 r.2
  | .raise c e, s => (fz (ev G e s)).bind fun r => .raise c r.1
  | .deckPut i _ e, s => (fz (ev G e s)).bind fun r => (M.ofOpt (intD r.1)).bind fun _ => (M.ofOpt (isDeck (gt r.2 i))).bind fun _ => .ret (.nx r.2)
  | .deckPop i j m a b, s => (M.ofOpt (isDeck (gt s i))).bind fun _ => (M.ofOpt (intV (gt s m))).bind fun many => (M.ofOpt (if j < s.length then some () else none)).bind fun _ => .any fun full => match decide (full = 0) with
    | true => .ret (.nx s)
    | false => .any fun c => match decide (10 ^ 18 ≤ c) with
      | true => (M.ofOpt (mxOk many)).bind fun _ => (execs n G a (s.set j (some (.d (.int c))))).bind fun f => match f with
        | .nx s => execs n G b s
        | f => .ret f
      | false => execs n G b (s.set j (some (.d (.int c))))
  | .never, _ => .stuck
  | .pass, s => .ret (.nx s)
  | .brk, s => .ret (.bk s)
  | .cont, s => .ret (.ct s)
def execs (n : Nat) (G : Nat → List Vl → M Vl) : Sts → S → M Fl
  | .nil, s => .ret (.nx s)
  | .cons st r, s => (exec n G st s).bind fun f => match f with
    | .nx s => execs n G r s
    | f => .ret f
end
structure Def where
  np : Nat
  ns : Nat
  body : Sts
def run (n : Nat) (G : Nat → List Vl → M Vl) (d : Def) (vs : List Vl) : M Vl :=
  if vs.length = d.np then (execs n G d.body (vs.map some ++ List.replicate (d.ns - d.np) none)).bind fun f => match f with
    | .nx _ => .ret (.d .none)
    | .rt v => .ret v
    | _ => .stuck
  else .stuck
/-- the def f called, k calls deep -/
def call (P : Nat → Option Def) (prim : Nat → List Vl → M Vl) (n : Nat) : Nat → Nat → List Vl → M Vl
  | 0, _, _ => .stuck
  | k + 1, f, vs => match P f with
    | some d => run n (call P prim n k) d vs
    | none => prim f vs
end TP
end

section
set_option linter.all false
set_option maxRecDepth 100000
/-! How values as trees lie in the abstract heap: F is what is given away and stays (a part of the heap), B what stood ahead and stays. -/
namespace TP
open PySem L2

abbrev Frag := PySem.W.Frag
mutual
inductive Dv (K : Frag) (F : Hp) : V → D → Prop
  | non : Dv K F .non .none
  | bl (b : Bool) : Dv K F (.bl b) (.bool b)
  | int (i : Int) : Dv K F (.int i) (.int i)
  | str (x : Str) : Dv K F (.str x) (.str x)
  | lst {a : Addr} {vs : List V} {ds : List D} : F a = some (.lst vs) → DvL K F vs ds → Dv K F (.ref a) (.list ds)
  | tup {a : Addr} {vs : List V} {ds : List D} : SqT K F a vs → DvL K F vs ds → Dv K F (.ref a) (.tuple ds)
  | dic {a : Addr} : F a = some (.dK []) → Dv K F (.ref a) (.dict [])
inductive DvL (K : Frag) (F : Hp) : List V → List D → Prop
  | nil : DvL K F [] []
  | cons {v : V} {vs : List V} {d : D} {ds : List D} : Dv K F v d → DvL K F vs ds → DvL K F (v :: vs) (d :: ds)
end
theorem same_tup {K : Frag} {F G : Hp} {a : Addr} {vs : List V} (s : Same F G) (h : SqT K F a vs) : SqT K G a vs := by
  rcases h with (h | ⟨o, h⟩) | h
  · exact .inl (.inl (s _ _ h))
  · exact .inl (.inr ⟨o, s _ _ h⟩)
  · exact .inr h
mutual
theorem Dv.mono {K : Frag} {F G : Hp} (s : Same F G) : ∀ (d : D) (v : V), Dv K F v d → Dv K G v d
  | .none, _, h => by cases h; exact .non
  | .bool b, _, h => by cases h; exact .bl b
  | .int i, _, h => by cases h; exact .int i
  | .str x, _, h => by cases h; exact .str x
  | .list ds, _, h => by cases h with | lst e r => exact .lst (s _ _ e) (DvL.mono s ds _ r)
  | .tuple ds, _, h => by cases h with | tup e r => exact .tup (same_tup s e) (DvL.mono s ds _ r)
  | .dict kvs, _, h => by cases h with | dic e => exact .dic (s _ _ e)
theorem DvL.mono {K : Frag} {F G : Hp} (s : Same F G) : ∀ (ds : List D) (vs : List V), DvL K F vs ds → DvL K G vs ds
  | [], _, h => by cases h; exact .nil
  | d :: ds, _, h => by cases h with | cons a r => exact .cons (Dv.mono s d _ a) (DvL.mono s ds _ r)
end
mutual
/-- as the layer's own words have it (no dict within) -/
theorem Dv.dp {K : Frag} {F H : Hp} (s : Same F H) : ∀ (d : D) (v : V), d.canLay0 = true → Dv K F v d → Dp K H v d
  | .none, _, _, h => by cases h; exact .non
  | .bool b, _, _, h => by cases h; exact .bl b
  | .int i, _, _, h => by cases h; exact .int i
  | .str x, _, _, h => by cases h; exact .str x
  | .list ds, _, c, h => by
    cases h with
    | lst e r => exact .lst (.inl (.inl (s _ _ e))) (DvL.dp s ds _ (by simpa only [PyData.canLay0] using c) r)
  | .tuple ds, _, c, h => by
    cases h with
    | tup e r => exact .tup (same_tup s e) (DvL.dp s ds _ (by simpa only [PyData.canLay0] using c) r)
  | .dict _, _, c, _ => by simp [PyData.canLay0] at c
theorem DvL.dp {K : Frag} {F H : Hp} (s : Same F H) : ∀ (ds : List D) (vs : List V), PyData.canLayAll0 ds = true → DvL K F vs ds → DpAll K H vs ds
  | [], _, _, h => by cases h; exact .nil
  | d :: ds, _, c, h => by
    have c' : d.canLay0 = true ∧ PyData.canLayAll0 ds = true := by simpa [PyData.canLayAll0] using c
    cases h with
    | cons a r => exact .cons (Dv.dp s d _ c'.1 a) (DvL.dp s ds _ c'.2 r)
end
section
variable {K : Frag} {F G : Hp} {v : V} {vs ws : List V} {d : D} {ds es : List D}
theorem DvL.length (h : DvL K F vs ds) : vs.length = ds.length := by
  induction ds generalizing vs with
  | nil => cases h; rfl
  | cons d ds ih => cases h with | cons a r => exact congrArg Nat.succ (ih r)
theorem DvL.append (h : DvL K F vs ds) (g : DvL K F ws es) : DvL K F (vs ++ ws) (ds ++ es) := by
  induction ds generalizing vs with
  | nil => cases h; exact g
  | cons d ds ih => cases h with | cons a r => exact .cons a (ih r)
theorem DvL.drop (h : DvL K F vs ds) (n : Nat) : DvL K F (vs.drop n) (ds.drop n) := by
  induction ds generalizing vs n with
  | nil => cases h; cases n <;> exact .nil
  | cons d ds ih =>
    cases h with
    | cons a r =>
      cases n with
      | zero => exact .cons a r
      | succ n => exact ih r n
theorem DvL.take (h : DvL K F vs ds) (n : Nat) : DvL K F (vs.take n) (ds.take n) := by
  induction ds generalizing vs n with
  | nil => cases h; cases n <;> exact .nil
  | cons d ds ih =>
    cases h with
    | cons a r =>
      cases n with
      | zero => exact .nil
      | succ n => exact .cons a (ih r n)
theorem DvL.get (h : DvL K F vs ds) {i : Nat} {x : D} (e : ds[i]? = some x) : ∃ y, vs[i]? = some y ∧ Dv K F y x := by
  induction ds generalizing vs i with
  | nil => simp at e
  | cons d ds ih =>
    cases h with
    | cons a r =>
      cases i with
      | zero =>
        have e' : d = x := by simpa using e
        subst e'
        exact ⟨_, rfl, a⟩
      | succ i => exact ih r (by simpa using e)
theorem DvL.getV (h : DvL K F vs ds) {i : Nat} {y : V} (e : vs[i]? = some y) : ∃ x, ds[i]? = some x ∧ Dv K F y x := by
  induction ds generalizing vs i with
  | nil => cases h; simp at e
  | cons d ds ih =>
    cases h with
    | cons a r =>
      cases i with
      | zero =>
        simp at e
        subst e
        exact ⟨_, rfl, a⟩
      | succ i => exact ih r (by simpa using e)
theorem DvL.reverse (h : DvL K F vs ds) : DvL K F vs.reverse ds.reverse := by
  induction ds generalizing vs with
  | nil => cases h; exact .nil
  | cons d ds ih =>
    cases h with
    | cons a r =>
      rw [List.reverse_cons, List.reverse_cons]
      exact (ih r).append (.cons a .nil)
theorem DvL.dropLast (h : DvL K F vs ds) : DvL K F vs.dropLast ds.dropLast := by
  rw [List.dropLast_eq_take, List.dropLast_eq_take, h.length]
  exact h.take _
theorem DvL.eraseIdx (h : DvL K F vs ds) (i : Nat) : DvL K F (vs.eraseIdx i) (ds.eraseIdx i) := by
  rw [List.eraseIdx_eq_take_drop_succ, List.eraseIdx_eq_take_drop_succ]
  exact (h.take i).append (h.drop (i + 1))
theorem DvL.set (h : DvL K F vs ds) (a : Dv K F v d) (i : Nat) : DvL K F (vs.set i v) (ds.set i d) := by
  induction ds generalizing vs i with
  | nil => cases h; exact .nil
  | cons e ds ih =>
    cases h with
    | cons b r =>
      cases i with
      | zero => exact .cons a r
      | succ i => exact .cons b (ih r i)
theorem DvL.flat (h : DvL K F vs ds) (k : Nat) : DvL K F (List.replicate k vs).flatten (List.replicate k ds).flatten := by
  induction k with
  | zero => exact .nil
  | succ k ih =>
    rw [List.replicate_succ, List.replicate_succ, List.flatten_cons, List.flatten_cons]
    exact h.append ih
theorem DvL.of_get : ∀ {vs : List V} {ds : List D}, vs.length = ds.length → (∀ (i : Nat) (y : V) (x : D), vs[i]? = some y → ds[i]? = some x → Dv K F y x) → DvL K F vs ds
  | [], [], _, _ => .nil
  | [], _ :: _, h, _ => by cases h
  | _ :: _, [], h, _ => by cases h
  | y :: vs, x :: ds, h, g => .cons (g 0 y x rfl rfl) (DvL.of_get (Nat.succ.inj h) fun i a b e1 e2 => g (i + 1) a b e1 e2)
theorem dv_ints : ∀ ns : List Int, DvL K F (ns.map V.int) (ns.map PyData.int)
  | [] => .nil
  | n :: r => .cons (.int n) (dv_ints r)
theorem intsD_eq : ∀ {ds : List D} {ns : List Int}, intsD ds = some ns → ds = ns.map PyData.int
  | [], ns, h => by
    have e : [] = ns := Option.some.inj h
    rw [← e]
    rfl
  | d :: r, ns, h => by
    cases d with
    | int i =>
      have h1 : (intsD r).map (i :: ·) = some ns := h
      cases e : intsD r with
      | none =>
        rw [e] at h1
        cases h1
      | some ms =>
        rw [e] at h1
        have e1 : i :: ms = ns := Option.some.inj h1
        rw [← e1, intsD_eq e]
        rfl
    | _ => cases h
theorem boolsD_eq : ∀ {ds : List D} {ns : List Bool}, boolsD ds = some ns → ds = ns.map PyData.bool
  | [], ns, h => by
    have e : [] = ns := Option.some.inj h
    rw [← e]
    rfl
  | d :: r, ns, h => by
    cases d with
    | bool i =>
      have h1 : (boolsD r).map (i :: ·) = some ns := h
      cases e : boolsD r with
      | none =>
        rw [e] at h1
        cases h1
      | some ms =>
        rw [e] at h1
        have e1 : i :: ms = ns := Option.some.inj h1
        rw [← e1, boolsD_eq e]
        rfl
    | _ => cases h
theorem DvL.ints {ns : List Int} : ∀ {vs : List V}, DvL K F vs (ns.map PyData.int) → vs = ns.map V.int := by
  induction ns with
  | nil => intro vs h; cases h; rfl
  | cons n r ih =>
    intro vs h
    cases h with
    | cons a b =>
      cases a
      rw [ih b]
      rfl
theorem DvL.bools {ns : List Bool} : ∀ {vs : List V}, DvL K F vs (ns.map PyData.bool) → vs = ns.map V.bl := by
  induction ns with
  | nil => intro vs h; cases h; rfl
  | cons n r ih =>
    intro vs h
    cases h with
    | cons a b =>
      cases a
      rw [ih b]
      rfl
end

/-! ### the world: what is given away, the decks -/
def vol (dk : List (Addr × Addr)) : List Addr := dk.flatMap fun p => [p.1, p.2]
theorem mem_vol {dk : List (Addr × Addr)} {p : Addr × Addr} (h : p ∈ dk) : p.1 ∈ vol dk ∧ p.2 ∈ vol dk :=
  ⟨List.mem_flatMap.mpr ⟨p, h, by simp⟩, List.mem_flatMap.mpr ⟨p, h, by simp⟩⟩
theorem of_mem_vol {dk : List (Addr × Addr)} {a : Addr} (h : a ∈ vol dk) : ∃ p ∈ dk, a = p.1 ∨ a = p.2 := by
  obtain ⟨p, hp, h⟩ := List.mem_flatMap.mp h
  exact ⟨p, hp, by simpa using h⟩
def mask (H : Hp) (l : List Addr) : Hp := fun a => if a ∈ l then none else H a
theorem mask_in {H : Hp} {l : List Addr} {a : Addr} (h : a ∈ l) : mask H l a = none := if_pos h
theorem mask_out {H : Hp} {l : List Addr} {a : Addr} (h : a ∉ l) : mask H l a = H a := if_neg h
/-- what a deck is: an assumption about the heap at its two cells; they are told apart from data -/
structure Dk where
  at_ : Hp → Addr × Addr → Prop
  loc : ∀ (H H' : Hp) (p : Addr × Addr), H' p.1 = H p.1 → H' p.2 = H p.2 → at_ H p → at_ H' p
  here : ∀ (H : Hp) (p : Addr × Addr), at_ H p → H p.1 ≠ none ∧ H p.2 ≠ none
/-- the fixed things: K the written part, B what stood ahead and stays, F0 what was given away ahead, d0 the decks ahead -/
structure Fx where
  K : Frag
  dk : Dk
  cl : Nat → Value
  fl : Nat → Str
structure Ct extends Fx where
  E : XK
  B : Hp
  F0 : Hp
  d0 : List (Addr × Addr)
structure Wd (C : Ct) (F H : Hp) (dk : List (Addr × Addr)) : Prop where
  fh : Same F H
  bh : Same C.B H
  ff : Same C.F0 F
  dd : ∀ p ∈ C.d0, p ∈ dk
  da : ∀ p ∈ dk, C.dk.at_ H p
  df : ∀ a ∈ vol dk, F a = none ∧ C.B a = none
  fb : ∀ a, C.B a ≠ none → C.F0 a = none → F a = none
/-- a list of one's own: nobody else holds it -/
def Ow (C : Ct) (F H : Hp) (dk : List (Addr × Addr)) (a : Addr) (xs : List D) : Prop :=
  F a = none ∧ C.B a = none ∧ a ∉ vol dk ∧ ∃ vs, H a = some (.lst vs) ∧ DvL C.K F vs xs
/-- a value in a slot; what it owns: fp -/
inductive SR (C : Ct) (F H : Hp) (dk : List (Addr × Addr)) : Option V → Option Vl → List Addr → Prop
  | no (v : Option V) : SR C F H dk v none []
  | d {v : V} {x : D} : Dv C.K F v x → SR C F H dk (some v) (some (.d x)) []
  | own {a : Addr} {xs : List D} : Ow C F H dk a xs → SR C F H dk (some (.ref a)) (some (.own xs)) [a]
  | deck {a b : Addr} : (a, b) ∈ dk → SR C F H dk (some (.ref a)) (some .deck) []
  | scr {a : Addr} {ns : List Int} : SqL C.K F a (ns.map V.int) → SR C F H dk (some (.ref a)) (some (.scr ns)) []
/-- the slots, by a footprint for each -/
structure Rel (C : Ct) (F H : Hp) (dk : List (Addr × Addr)) (σ : L2.St) (s : S) : Prop where
  w : Wd C F H dk
  len : σ.length = s.length
  sl : ∃ fp : Nat → List Addr, (∀ i, SR C F H dk (σ.getD i none) (gt s i) (fp i)) ∧ ∀ i j a, a ∈ fp i → a ∈ fp j → i = j
/-- the slots and one more value -/
def Rel1 (C : Ct) (F H : Hp) (dk : List (Addr × Addr)) (σ : L2.St) (s : S) (v : V) (x : Vl) : Prop := Rel C F H dk (some v :: σ) (some x :: s)
section
variable {C : Ct} {F H F' H' G : Hp} {dk dk' : List (Addr × Addr)} {σ : L2.St} {s : S} {v : V} {x : Vl} {i : Nat}
theorem gt_cons_zero {o : Option Vl} : gt (o :: s) 0 = o := rfl
theorem gt_cons_succ {o : Option Vl} : gt (o :: s) (i + 1) = gt s i := rfl
theorem Rel1.tail (r : Rel1 C F H dk σ s v x) : Rel C F H dk σ s := by
  obtain ⟨fp, h1, h2⟩ := r.sl
  exact ⟨r.w, Nat.succ.inj r.len, fun i => fp (i + 1), fun i => h1 (i + 1), fun i j a ha hb => Nat.succ.inj (h2 _ _ a ha hb)⟩
theorem Rel1.head (r : Rel1 C F H dk σ s v x) : ∃ fp, SR C F H dk (some v) (some x) fp := by
  obtain ⟨fp, h1, h2⟩ := r.sl
  exact ⟨fp 0, h1 0⟩
/-- data beside the slots -/
theorem Rel.with_d (r : Rel C F H dk σ s) {x : D} (h : Dv C.K F v x) : Rel1 C F H dk σ s v (.d x) := by
  obtain ⟨fp, h1, h2⟩ := r.sl
  refine ⟨r.w, congrArg Nat.succ r.len, fun i => match i with | 0 => [] | i + 1 => fp i, fun i => ?_, fun i j a ha hb => ?_⟩
  · cases i with
    | zero => exact .d h
    | succ i => exact h1 i
  · cases i with
    | zero => cases ha
    | succ i =>
      cases j with
      | zero => cases hb
      | succ j => exact congrArg Nat.succ (h2 i j a ha hb)
theorem Rel.with_sr0 (r : Rel C F H dk σ s) (h : SR C F H dk (some v) (some x) []) : Rel1 C F H dk σ s v x := by
  obtain ⟨fp, h1, h2⟩ := r.sl
  refine ⟨r.w, congrArg Nat.succ r.len, fun i => match i with | 0 => [] | i + 1 => fp i, fun i => ?_, fun i j a ha hb => ?_⟩
  · cases i with
    | zero => exact h
    | succ i => exact h1 i
  · cases i with
    | zero => cases ha
    | succ i =>
      cases j with
      | zero => cases hb
      | succ j => exact congrArg Nat.succ (h2 i j a ha hb)
theorem getD_set {α : Type} {l : List α} {i j : Nat} {d y : α} : (l.set i y).getD j d = if i = j ∧ i < l.length then y else l.getD j d := by
  rw [List.getD_eq_getElem?_getD, List.getD_eq_getElem?_getD, List.getElem?_set]
  by_cases h : i = j
  · subst h
    by_cases hl : i < l.length
    · simp [hl]
    · simp [hl]
  · simp [h]
/-- the value goes into a slot -/
theorem Rel1.store (r : Rel1 C F H dk σ s v x) (i : Nat) : Rel C F H dk (σ.set i (some v)) (s.set i (some x)) := by
  obtain ⟨fp, h1, h2⟩ := r.sl
  have hlen : σ.length = s.length := Nat.succ.inj r.len
  refine ⟨r.w, by rw [List.length_set, List.length_set]; exact hlen, fun j => if i = j ∧ i < σ.length then fp 0 else fp (j + 1), fun j => ?_, fun j k a ha hb => ?_⟩
  · show SR C F H dk ((σ.set i (some v)).getD j none) ((s.set i (some x)).getD j none) _
    rw [getD_set, getD_set, ← hlen]
    dsimp only
    by_cases h : i = j ∧ i < σ.length
    · rw [if_pos h, if_pos h, if_pos h]; exact h1 0
    · rw [if_neg h, if_neg h, if_neg h]; exact h1 (j + 1)
  · dsimp only at ha hb
    by_cases hj : i = j ∧ i < σ.length
    · by_cases hk : i = k ∧ i < σ.length
      · exact hj.1.symm.trans hk.1
      · rw [if_pos hj] at ha
        rw [if_neg hk] at hb
        cases h2 _ _ a ha hb
    · by_cases hk : i = k ∧ i < σ.length
      · rw [if_neg hj] at ha
        rw [if_pos hk] at hb
        cases h2 _ _ a ha hb
      · rw [if_neg hj] at ha
        rw [if_neg hk] at hb
        exact Nat.succ.inj (h2 _ _ a ha hb)
/-- a slot is forgotten -/
theorem Rel.wipe1 (r : Rel C F H dk σ s) (i : Nat) (v : Option V) : Rel C F H dk (σ.set i v) (s.set i none) := by
  obtain ⟨fp, h1, h2⟩ := r.sl
  refine ⟨r.w, by rw [List.length_set, List.length_set]; exact r.len, fun j => if i = j ∧ i < σ.length then [] else fp j, fun j => ?_, fun j k a ha hb => ?_⟩
  · show SR C F H dk ((σ.set i v).getD j none) ((s.set i none).getD j none) _
    rw [getD_set, getD_set, ← r.len]
    dsimp only
    by_cases h : i = j ∧ i < σ.length
    · rw [if_pos h, if_pos h, if_pos h]; exact .no _
    · rw [if_neg h, if_neg h, if_neg h]; exact h1 j
  · dsimp only at ha hb
    by_cases hj : i = j ∧ i < σ.length
    · rw [if_pos hj] at ha; cases ha
    · by_cases hk : i = k ∧ i < σ.length
      · rw [if_pos hk] at hb; cases hb
      · rw [if_neg hj] at ha
        rw [if_neg hk] at hb
        exact h2 _ _ a ha hb
theorem SR.bound {o : Option V} {fp : List Addr} {x : Vl} (h : SR C F H dk o (some x) fp) : ∃ v, o = some v := by
  cases h <;> exact ⟨_, rfl⟩
theorem getD_some {α : Type} {l : List (Option α)} {i : Nat} {x : α} (h : l.getD i none = some x) : l[i]? = some (some x) := by
  rw [List.getD_eq_getElem?_getD] at h
  cases e : l[i]? with
  | none =>
    rw [e] at h
    cases h
  | some o =>
    rw [e] at h
    have h' : o = some x := h
    rw [h']
theorem Rel.at (r : Rel C F H dk σ s) {i : Nat} {x : Vl} (e : gt s i = some x) : ∃ v fp, σ[i]? = some (some v) ∧ SR C F H dk (some v) (some x) fp := by
  obtain ⟨fp, h1, h2⟩ := r.sl
  have h := h1 i
  rw [e] at h
  obtain ⟨v, hv⟩ := h.bound
  rw [hv] at h
  exact ⟨v, fp i, getD_some hv, h⟩
theorem SR.grow {o : Option V} {x : Option Vl} {fp : List Addr} (sf : Same F F') (h : SR C F H dk o x fp) (hc : ∀ c ∈ fp, F' c = F c) : SR C F' H dk o x fp := by
  cases h with
  | no o => exact .no o
  | d h => exact .d (Dv.mono sf _ _ h)
  | own h =>
    obtain ⟨o1, o2, o3, ws, o4, o5⟩ := h
    exact .own ⟨(hc _ (by simp)).trans o1, o2, o3, ws, o4, DvL.mono sf _ _ o5⟩
  | deck h => exact .deck h
  | scr h => exact .scr (sf.seq h)
/-- a value of one's own is given away: a ghost's step -/
theorem Rel1.freeze {xs : List D} (r : Rel1 C F H dk σ s v (.own xs)) : ∃ F', Same F F' ∧ Rel C F' H dk σ s ∧ Dv C.K F' v (.list xs) := by
  obtain ⟨fp, h1, h2⟩ := r.sl
  have h0 := h1 0
  have h0' : SR C F H dk (some v) (some (.own xs)) (fp 0) := h0
  generalize hf : fp 0 = f0 at h0'
  cases h0' with
  | own ow =>
    rename_i a
    obtain ⟨fa, ba, va, vs, ha, hd⟩ := ow
    have sf : Same F (upd F a (.lst vs)) := fun b o e => by
      rw [upd_ne (ne_of_none e fa)]
      exact e
    have other : ∀ i b, b ∈ fp (i + 1) → b ≠ a := fun i b hb e => by
      have : a ∈ fp 0 := by rw [hf]; simp
      cases h2 _ _ b hb (e ▸ this)
    refine ⟨upd F a (.lst vs), sf, ⟨⟨fun b o e => ?_, r.w.bh, r.w.ff.trans sf, r.w.dd, r.w.da, fun b hb => ?_, fun b hb h0 => ?_⟩, Nat.succ.inj r.len, fun i => fp (i + 1), fun i => ?_, fun i j b hb hc => Nat.succ.inj (h2 _ _ b hb hc)⟩, .lst upd_same (DvL.mono sf _ _ hd)⟩
    · by_cases hb : b = a
      · rw [hb, upd_same] at e
        rw [hb, ha]
        exact e
      · rw [upd_ne hb] at e
        exact r.w.fh _ _ e
    · have hb' : b ≠ a := fun e => va (e ▸ hb)
      rw [upd_ne hb']
      exact r.w.df b hb
    · have hb' : b ≠ a := fun e => hb (e ▸ ba)
      rw [upd_ne hb']
      exact r.w.fb b hb h0
    · exact SR.grow sf (h1 (i + 1)) fun c hc => by rw [upd_ne (other i c hc)]
/-- what is frozen in a value, or is data already -/
theorem Rel1.frz {y : D} (r : Rel1 C F H dk σ s v x) (e : x.frz = some y) : ∃ F', Same F F' ∧ Rel C F' H dk σ s ∧ Dv C.K F' v y := by
  cases x with
  | d z =>
    have e' : z = y := Option.some.inj e
    subst e'
    obtain ⟨fp, h⟩ := r.head
    cases h with
    | d h => exact ⟨F, Same.refl F, r.tail, h⟩
  | own xs =>
    have e' : PyData.list xs = y := Option.some.inj e
    subst e'
    exact r.freeze
  | deck => cases e
  | scr ns => cases e
/-- an owned list out of its slot, the slot forgotten -/
theorem Rel.takeOut (r : Rel C F H dk σ s) {i : Nat} {x : Vl} {v : V} (e : gt s i = some x) (ev : σ[i]? = some (some v)) (o : Option V) : Rel1 C F H dk (σ.set i o) (s.set i none) v x := by
  obtain ⟨fp, h1, h2⟩ := r.sl
  have hi : i < σ.length := (List.getElem?_eq_some_iff.mp ev).1
  have ed : σ.getD i none = some v := by rw [List.getD_eq_getElem?_getD, ev]; rfl
  refine ⟨r.w, by rw [List.length_cons, List.length_cons, List.length_set, List.length_set, r.len], fun j => match j with | 0 => fp i | j + 1 => if i = j then [] else fp j, fun j => ?_, fun j k a ha hb => ?_⟩
  · cases j with
    | zero =>
      have q := h1 i
      rw [e, ed] at q
      exact q
    | succ j =>
      show SR C F H dk ((σ.set i o).getD j none) ((s.set i none).getD j none) _
      rw [getD_set, getD_set, ← r.len]
      by_cases hj : i = j
      · rw [if_pos ⟨hj, hi⟩, if_pos ⟨hj, hi⟩]
        show SR C F H dk o none (if i = j then [] else fp j)
        rw [if_pos hj]
        exact .no o
      · rw [if_neg (fun z => hj z.1), if_neg (fun z => hj z.1)]
        show SR C F H dk _ _ (if i = j then [] else fp j)
        rw [if_neg hj]
        exact h1 j
  · have in0 : ∀ j, a ∈ (if i = j then [] else fp j) → i ≠ j ∧ a ∈ fp j := fun j h => by
      by_cases hj : i = j
      · rw [if_pos hj] at h; cases h
      · rw [if_neg hj] at h; exact ⟨hj, h⟩
    cases j with
    | zero =>
      cases k with
      | zero => rfl
      | succ k =>
        obtain ⟨n, m⟩ := in0 k hb
        exact absurd (h2 _ _ a ha m) n
    | succ j =>
      obtain ⟨n, m⟩ := in0 j ha
      cases k with
      | zero => exact absurd (h2 _ _ a m hb).symm n
      | succ k =>
        obtain ⟨n', m'⟩ := in0 k hb
        exact congrArg Nat.succ (h2 _ _ a m m')
/-- a name read in order to be given away -/
theorem Rel.read (r : Rel C F H dk σ s) {i : Nat} {y : D} {x : Vl} (e : gt s i = some x) (ey : x.frz = some y) : ∃ v F', σ[i]? = some (some v) ∧ Same F F' ∧ Dv C.K F' v y ∧ Rel C F' H dk σ (s.set i (some (.d y))) := by
  obtain ⟨v, fp, ev, h⟩ := r.at e
  obtain ⟨F', sf, r', d⟩ := (r.takeOut e ev (some v)).frz ey
  have r2 := (r'.with_d d).store i
  have e1 : (σ.set i (some v)).set i (some v) = σ := by
    rw [List.set_set]
    have hi := (List.getElem?_eq_some_iff.mp ev)
    obtain ⟨hi, hv⟩ := hi
    rw [← hv]
    exact List.set_getElem_self hi
  have e2 : (s.set i none).set i (some (.d y)) = s.set i (some (.d y)) := List.set_set ..
  rw [e1, e2] at r2
  exact ⟨v, F', ev, sf, d, r2⟩
theorem set_gt {i : Nat} {x : Vl} (e : gt s i = some x) : s.set i (some x) = s := by
  have h := getD_some e
  obtain ⟨hi, hv⟩ := List.getElem?_eq_some_iff.mp h
  rw [← hv]
  exact List.set_getElem_self hi
/-! ### another fixed part -/
/-- from now on F, dk are ahead -/
def Ct.now (C : Ct) (F : Hp) (dk : List (Addr × Addr)) : Ct := { C with F0 := F, d0 := dk }
theorem SR.now {F1 : Hp} {d1 : List (Addr × Addr)} {o : Option V} {x : Option Vl} {fp : List Addr} (h : SR C F H dk o x fp) : SR (C.now F1 d1) F H dk o x fp := by
  cases h with
  | no o => exact .no o
  | d h => exact .d h
  | own h => exact .own h
  | deck h => exact .deck h
  | scr h => exact .scr h
theorem SR.unnow {F1 : Hp} {d1 : List (Addr × Addr)} {o : Option V} {x : Option Vl} {fp : List Addr} (h : SR (C.now F1 d1) F H dk o x fp) : SR C F H dk o x fp := by
  cases h with
  | no o => exact .no o
  | d h => exact .d h
  | own h => exact .own h
  | deck h => exact .deck h
  | scr h => exact .scr h
theorem Rel.now (r : Rel C F H dk σ s) : Rel (C.now F dk) F H dk σ s := by
  obtain ⟨fp, h1, h2⟩ := r.sl
  exact ⟨⟨r.w.fh, r.w.bh, Same.refl F, fun _ h => h, r.w.da, r.w.df, fun _ _ h => h⟩, r.len, fp, fun i => (h1 i).now, h2⟩
theorem Wd.unnow {F1 H1 : Hp} {d1 : List (Addr × Addr)} (w : Wd C F1 H1 d1) (w' : Wd (C.now F1 d1) F H dk) : Wd C F H dk :=
  ⟨w'.fh, w'.bh, w.ff.trans w'.ff, fun p h => w'.dd p (w.dd p h), w'.da, w'.df, fun a h h0 => w'.fb a h (w.fb a h h0)⟩
theorem Rel.unnow {F1 H1 : Hp} {d1 : List (Addr × Addr)} (w : Wd C F1 H1 d1) (r : Rel (C.now F1 d1) F H dk σ s) : Rel C F H dk σ s := by
  obtain ⟨fp, h1, h2⟩ := r.sl
  exact ⟨w.unnow r.w, r.len, fp, fun i => (h1 i).unnow, h2⟩
/-- all that stands stays, but the decks -/
def Ct.deep (C : Ct) (F H : Hp) (dk : List (Addr × Addr)) : Ct := { C with B := mask H (vol dk), F0 := F, d0 := dk }
theorem mask_same {H : Hp} {l : List Addr} : Same (mask H l) H := fun a o h => by
  by_cases ha : a ∈ l
  · rw [mask_in ha] at h; cases h
  · rw [mask_out ha] at h; exact h
theorem Wd.deep (w : Wd C F H dk) : Wd (C.deep F H dk) F H dk :=
  ⟨w.fh, mask_same, Same.refl F, fun _ h => h, w.da, fun a h => ⟨(w.df a h).1, mask_in h⟩, fun _ _ h => h⟩
theorem Wd.bmask (w : Wd C F H dk) {a : Addr} {o : HO} (h : C.B a = some o) : mask H (vol dk) a = some o := by
  have ha : a ∉ vol dk := fun z => by rw [(w.df a z).2] at h; cases h
  rw [mask_out ha]
  exact w.bh _ _ h
theorem Wd.undeep {F1 H1 : Hp} {d1 : List (Addr × Addr)} (w : Wd C F1 H1 d1) (w' : Wd (C.deep F1 H1 d1) F H dk) : Wd C F H dk := by
  refine ⟨w'.fh, fun a o h => w'.bh _ _ (w.bmask h), w.ff.trans w'.ff, fun p h => w'.dd p (w.dd p h), w'.da, fun a h => ⟨(w'.df a h).1, ?_⟩, fun a h h0 => w'.fb a ?_ (w.fb a h h0)⟩
  · cases e : C.B a with
    | none => rfl
    | some o =>
      have q := (w'.df a h).2
      have q' : mask H1 (vol d1) a = none := q
      rw [w.bmask e] at q'
      cases q'
  · cases e : C.B a with
    | none => exact absurd e h
    | some o =>
      show mask H1 (vol d1) a ≠ none
      rw [w.bmask e]
      exact fun z => by cases z
/-- what stays through a step that leaves all that stood -/
theorem SR.frame {F1 H1 : Hp} {d1 : List (Addr × Addr)} {o : Option V} {x : Option Vl} {fp : List Addr} (w' : Wd (C.deep F1 H1 d1) F H dk) (h : SR C F1 H1 d1 o x fp) : SR C F H dk o x fp := by
  cases h with
  | no o => exact .no o
  | d h => exact .d (Dv.mono w'.ff _ _ h)
  | own h =>
    obtain ⟨o1, o2, o3, ws, o4, o5⟩ := h
    have hm := mask_out (H := H1) o3
    rw [o4] at hm
    have hv : _ ∉ vol dk := fun z => by
      have q := (w'.df _ z).2
      have q' : mask H1 (vol d1) _ = none := q
      rw [hm] at q'
      cases q'
    exact .own ⟨w'.fb _ (by show mask H1 (vol d1) _ ≠ none; rw [hm]; exact fun z => by cases z) o1, o2, hv, ws, w'.bh _ _ hm, DvL.mono w'.ff _ _ o5⟩
  | deck h => exact .deck (w'.dd _ h)
  | scr h => exact .scr (w'.ff.seq h)
theorem Rel.frame {F1 H1 : Hp} {d1 : List (Addr × Addr)} (r : Rel C F1 H1 d1 σ s) (w' : Wd (C.deep F1 H1 d1) F H dk) : Rel C F H dk σ s := by
  obtain ⟨fp, h1, h2⟩ := r.sl
  exact ⟨r.w.undeep w', r.len, fp, fun i => (h1 i).frame w', h2⟩
/-- .. and a value that the step has given: what it owns is new -/
theorem Rel.frame1 {F1 H1 : Hp} {d1 : List (Addr × Addr)} {σ1 : L2.St} {s1 : S} (r : Rel C F1 H1 d1 σ s) (q : Rel1 (C.deep F1 H1 d1) F H dk σ1 s1 v x)   : Rel1 C F H dk σ s v x := by
  have r' := r.frame q.w
  obtain ⟨fp, h1, h2⟩ := r.sl
  obtain ⟨fq, hq⟩ := q.head
  have h0 : SR C F H dk (some v) (some x) fq ∧ ∀ a ∈ fq, H1 a = none := by
    cases hq with
    | d h => exact ⟨.d h, fun a z => by cases z⟩
    | @own a xs h =>
      obtain ⟨o1, o2, o3, ws, o4, o5⟩ := h
      have o2' : mask H1 (vol d1) a = none := o2
      have nv : a ∉ vol d1 := fun z => o3 (by
        obtain ⟨p, hp, hz⟩ := of_mem_vol z
        have m := mem_vol (q.w.dd p hp)
        rcases hz with e | e
        · rw [e]; exact m.1
        · rw [e]; exact m.2)
      rw [mask_out nv] at o2'
      refine ⟨.own ⟨o1, ?_, o3, ws, o4, o5⟩, fun b hb => ?_⟩
      · cases e : C.B _ with
        | none => rfl
        | some o =>
          rw [r.w.bh _ _ e] at o2'
          cases o2'
      · rw [List.mem_singleton.mp hb]; exact o2'
    | deck h => exact ⟨.deck h, fun a z => by cases z⟩
    | scr h => exact ⟨.scr h, fun a z => by cases z⟩
  obtain ⟨h0, hn⟩ := h0
  have ownH : ∀ i a, a ∈ fp i → H1 a ≠ none := fun i a ha => by
    have z := h1 i
    generalize fp i = f at ha z
    generalize σ.getD i none = si at z
    generalize gt s i = gi at z
    cases z with
    | no _ => cases ha
    | d _ => cases ha
    | own o =>
      obtain ⟨_, _, _, ws, o4, _⟩ := o
      rw [List.mem_singleton.mp ha, o4]
      exact fun z => by cases z
    | deck _ => cases ha
    | scr _ => cases ha
  refine ⟨r'.w, congrArg Nat.succ r.len, fun i => match i with | 0 => fq | i + 1 => fp i, fun i => ?_, fun i j a ha hb => ?_⟩
  · cases i with
    | zero => exact h0
    | succ i => exact (h1 i).frame q.w
  · cases i with
    | zero =>
      cases j with
      | zero => rfl
      | succ j => exact absurd (hn a ha) (ownH j a hb)
    | succ i =>
      cases j with
      | zero => exact absurd (hn a hb) (ownH i a ha)
      | succ j => exact congrArg Nat.succ (h2 i j a ha hb)
/-! ### what is wanted behind a run -/
/-- of an exception: its own dict, new or not, holds the thing -/
def RPost (C : Ct) (c : Nat) (x : D) : Prop := ∀ (F H : Hp) (dk : List (Addr × Addr)) (v : V) (dx : Addr), Wd C F H dk → Dv C.K F v x → H dx = some (.xd [(C.fl c, v)]) → C.E (C.cl c) (some dx) H
theorem RPost.now {F1 H1 : Hp} {d1 : List (Addr × Addr)} (w : Wd C F1 H1 d1) {c : Nat} {x : D} (h : RPost C c x) : RPost (C.now F1 d1) c x := fun F H dk v dx w' => h F H dk v dx (w.unnow w')
theorem RPost.deep {F1 H1 : Hp} {d1 : List (Addr × Addr)} (w : Wd C F1 H1 d1) {c : Nat} {x : D} (h : RPost C c x) : RPost (C.deep F1 H1 d1) c x := fun F H dk v dx w' => h F H dk v dx (w.undeep w')
end
end TP
end

section
set_option linter.all false
set_option maxRecDepth 100000
namespace TP
open PySem L2 PySem.Spec PyProof.Rows
section
variable {X : Cx}
/-! ### a tuple times 1, the empty tuple times anything: itself -/
theorem tup_mul_same (l : Addr) (its : Array Value) (n : Nat) (dd : Option Addr) (sl : Array (Option Value)) (x : Int) (u : Tok) (c0 : (decide (x < -(2 ^ 63)) || decide (x ≥ 2 ^ 63)) = false) (c1 : (its.isEmpty || x == 1) = true) :
    Meets (Builtin.«tuple.__mul__» ⟨[.ref l, .int x u], []⟩) (fun _ R s => s.heap.get? l = some { cls := .type "tuple", dict := dd, data := .seq its n, slots := sl } ∧ R (.ok (.ret (Value.ref l))) s) :=
  .of_wp fun prog w A R s h => by
    obtain ⟨hp, g, d, tk, os⟩ := s
    obtain ⟨hl, h⟩ := h
    have f1 := AutoSeq1.idx_int
    wp_walk using wpAny_loadPart' hl
    repeat (first
      | (refine wpAny_ite_false (decide_eq_false (by rw [c0]; exact Bool.false_ne_true)) ?_; wp_walk using wpAny_loadPart' hl)
      | (refine wpAny_ite_true (decide_eq_true c1) ?_; wp_walk using wpAny_loadPart' hl))
    exact ⟨_, rfl, h⟩
def rRepS (K : PySem.W.Frag) : R2 := fun x y H Q => ∃ l k xs, x = .ref l ∧ y = .int k ∧ SqT K H l xs ∧ (xs = [] ∨ k = 1) ∧ -1000 ≤ k ∧ k ≤ 1000 ∧ Q (.ref l) H
theorem op_repS : OpR X (binaryOp .Mult) (rRepS X.K) := by
  intro pins s σ H x y v u Q I rx ry h
  obtain ⟨l, k, xs, rfl, rfl, hT, hne, h1, h2, q⟩ := h
  cases rx
  obtain ⟨t, rfl⟩ := ry
  obtain ⟨its, r, ⟨⟨cls, dd, data, sl⟩, ho, hc, n, hd⟩, hs⟩ := I.tuple hT
  simp only at hc hd
  subst hc hd
  have c0 : (decide (k < -(2 ^ 63)) || decide (k ≥ 2 ^ 63)) = false := by
    rw [decide_eq_false (by omega), decide_eq_false (by omega)]
    rfl
  have c1 : (its.toArray.isEmpty || k == 1) = true := by
    rcases hne with e | e
    · subst e
      cases r
      rfl
    · rw [e, Bool.or_eq_true]
      exact .inr rfl
  exact wpAny_binaryOp_repeat_ref (T := "tuple") (U := "int") (by decide) ⟨_, ho, rfl⟩ (fun s' => typeIs_int s' k t) noFill_tuple_mul F.fills_int_mul PySem.F.slot_int_rmul repeat_tuple PySem.F.slot_int_index.lookup
    (call_meets PySem.F.slot_int_rmul (typeIs_int s k t) F.entry_int_rmul (F.args_int_rmul_2 _ _) (int_rmul_tuple k t l its.toArray n dd sl)
      ⟨ho, rfl, ⟨_, ho, rfl⟩, call_meets PySem.F.slot_tuple_mul ⟨_, ho, rfl⟩ F.entry_tuple_mul (F.args_tuple_mul_2 _ _) (tup_mul_same l its.toArray n dd sl k t c0 c1) ⟨ho, ⟨.ref l, H, I, rfl, q⟩⟩⟩)

end
end TP
end

section
set_option linter.all false
set_option maxRecDepth 100000
/-! What the layer's judgements say of expressions, by their runs over trees. -/
namespace TP
open PySem L2
abbrev LS := L2.St

theorem pe_imp {X : Cx} {e : Expr} {t t' : TE} (h : PE X e t) (w : ∀ σ H Q, t' σ H Q → t σ H Q) : PE X e t' := ⟨fun pins s σ H Q I q => h.run pins s σ H Q I (w σ H Q q)⟩
theorem pt_imp {X : Cx} {e : Expr} {t t' : TT} (h : PT X e t) (w : ∀ σ H Q, t' σ H Q → t σ H Q) : PT X e t' := ⟨fun pins s σ H Q I q => h.run pins s σ H Q I (w σ H Q q)⟩
theorem pa_imp {X : Cx} {es : List Expr} {t t' : TA} (h : PA X es t) (w : ∀ σ H Q, t' σ H Q → t σ H Q) : PA X es t' := ⟨fun pos pins s σ H Q I q => h.run pos pins s σ H Q I (w σ H Q q)⟩

/-- what is to be read at a value, by the heap as it is: data, or a list of one's own -/
def Rv (K : Frag) (F H : Hp) (v : V) : D → Prop
  | .list xs => ∃ a vs, v = .ref a ∧ H a = some (.lst vs) ∧ DvL K F vs xs
  | x => Dv K F v x
theorem Rv.of {K : Frag} {F H : Hp} {v : V} {x : D} (s : Same F H) (h : Dv K F v x) : Rv K F H v x := by
  cases h with
  | lst e r => exact ⟨_, _, rfl, s _ _ e, r⟩
  | non => exact .non
  | bl b => exact .bl b
  | int i => exact .int i
  | str z => exact .str z
  | tup e r => exact .tup e r
  | dic e => exact .dic e
/-- an operand: data; a name -/
def OR (C : Ct) (F : Hp) (σ : LS) (v : V) : Opr → Prop
  | .dt x => Dv C.K F v x
  | .sl i => σ[i]? = some (some v)
section
variable {C : Ct} {F H F' H' : Hp} {dk dk' : List (Addr × Addr)} {σ : LS} {s s' : S} {v : V} {x : D} {o : Opr}
theorem OR.mono (sf : Same F F') (h : OR C F σ v o) : OR C F' σ v o := by
  cases o with
  | dt x => exact Dv.mono sf _ _ h
  | sl i => exact h
theorem OR.rv (r : Rel C F H dk σ s) (h : OR C F σ v o) (e : res s o = some x) : Rv C.K F H v x := by
  cases o with
  | dt y =>
    have e' : y = x := Option.some.inj e
    subst e'
    exact .of r.w.fh h
  | sl i =>
    have e' : (gt s i).bind Vl.frz = some x := e
    cases eg : gt s i with
    | none =>
      rw [eg] at e'
      cases e'
    | some y =>
      rw [eg] at e'
      have e2 : y.frz = some x := e'
      obtain ⟨w, fp, ev, q⟩ := r.at eg
      have ew : w = v := by
        have h' : σ[i]? = some (some v) := h
        rw [ev] at h'
        exact Option.some.inj (Option.some.inj h')
      subst ew
      cases q with
      | d q =>
        have e3 := Option.some.inj e2
        subst e3
        exact .of r.w.fh q
      | own q =>
        have e3 := Option.some.inj e2
        subst e3
        obtain ⟨_, _, _, vs, o4, o5⟩ := q
        exact ⟨_, vs, rfl, o4, o5⟩
      | deck _ => cases e2
      | scr _ => cases e2
end
/-! ### the readings -/
def QV (C : Ct) (σ : LS) (Q : VK) (r : Vl × S) : Prop := ∀ F H dk v, Rel1 C F H dk σ r.2 v r.1 → Q v H
def QO (C : Ct) (σ : LS) (Q : VK) (r : Opr × S) : Prop := ∀ F H dk v, Rel C F H dk σ r.2 → OR C F σ v r.1 → Q v H
def QB (C : Ct) (σ : LS) (Q : Bool → Hp → Prop) (r : Bool × S) : Prop := ∀ F H dk, Rel C F H dk σ r.2 → Q r.1 H
def QDs (C : Ct) (σ : LS) (Q : List V → Hp → Prop) (r : List D × S) : Prop := ∀ F H dk vs, Rel C F H dk σ r.2 → DvL C.K F vs r.1 → Q vs H
def ORL (C : Ct) (F : Hp) (σ : LS) : List V → List Opr → Prop
  | [], [] => True
  | v :: vs, o :: os => OR C F σ v o ∧ ORL C F σ vs os
  | _, _ => False
def QOs (C : Ct) (σ : LS) (Q : List V → Hp → Prop) (r : List Opr × S) : Prop := ∀ F H dk vs, Rel C F H dk σ r.2 → ORL C F σ vs r.1 → Q vs H
/-- an argument: data, the deck, the script -/
def AR (K : Frag) (F : Hp) (dk : List (Addr × Addr)) (v : V) : Vl → Prop
  | .d x => Dv K F v x
  | .deck => ∃ a b, v = .ref a ∧ (a, b) ∈ dk
  | .scr ns => ∃ a, v = .ref a ∧ SqL K F a (ns.map V.int)
  | .own _ => False
def ARL (K : Frag) (F : Hp) (dk : List (Addr × Addr)) : List V → List Vl → Prop
  | [], [] => True
  | v :: vs, x :: xs => AR K F dk v x ∧ ARL K F dk vs xs
  | _, _ => False
def QAs (C : Ct) (σ : LS) (Q : List V → Hp → Prop) (r : List Vl × S) : Prop := ∀ F H dk vs, Rel C F H dk σ r.2 → ARL C.K F dk vs r.1 → Q vs H
section
variable (Y : Fx) (E : XK)
def tV (f : S → M (Vl × S)) : TE := fun σ H Q => ∃ C F dk s, C.toFx = Y ∧ C.E = E ∧ Rel C F H dk σ s ∧ (f s).All (QV C σ Q) (RPost C)
def tO (f : S → M (Opr × S)) : TE := fun σ H Q => ∃ C F dk s, C.toFx = Y ∧ C.E = E ∧ Rel C F H dk σ s ∧ (f s).All (QO C σ Q) (RPost C)
def tBo (f : S → M (Bool × S)) : TT := fun σ H Q => ∃ C F dk s, C.toFx = Y ∧ C.E = E ∧ Rel C F H dk σ s ∧ (f s).All (QB C σ Q) (RPost C)
def tDs (f : S → M (List D × S)) : TA := fun σ H Q => ∃ C F dk s, C.toFx = Y ∧ C.E = E ∧ Rel C F H dk σ s ∧ (f s).All (QDs C σ Q) (RPost C)
def tOs (f : S → M (List Opr × S)) : TA := fun σ H Q => ∃ C F dk s, C.toFx = Y ∧ C.E = E ∧ Rel C F H dk σ s ∧ (f s).All (QOs C σ Q) (RPost C)
def tAs (f : S → M (List Vl × S)) : TA := fun σ H Q => ∃ C F dk s, C.toFx = Y ∧ C.E = E ∧ Rel C F H dk σ s ∧ (f s).All (QAs C σ Q) (RPost C)
end
section
variable {Y : Fx} {E : XK} {X : Cx} {e : Expr} {es : List Expr}
/-! ### operands -/
def QF (C : Ct) (σ : LS) (Q : VK) (r : D × S) : Prop := ∀ F H dk v, Rel C F H dk σ r.2 → Dv C.K F v r.1 → Q v H
def tF (Y : Fx) (E : XK) (f : S → M (D × S)) : TE := fun σ H Q => ∃ C F dk s, C.toFx = Y ∧ C.E = E ∧ Rel C F H dk σ s ∧ (f s).All (QF C σ Q) (RPost C)
theorem so_fz {f : S → M (Vl × S)} (h : PE X e (tV Y E f)) : PE X e (tF Y E fun s => fz (f s)) := by
  refine pe_imp h fun σ H Q ⟨C, F, dk, s, hY, hE, r, a⟩ => ⟨C, F, dk, s, hY, hE, r, ?_⟩
  refine (M.all_bind _).mp a |>.mono (fun q hq => ?_) fun _ _ z => z
  obtain ⟨x, ex, hx⟩ := M.all_ofOpt ((M.all_bind _).mp hq)
  intro F1 H1 d1 v r1
  obtain ⟨F2, sf, r2, dv⟩ := r1.frz ex
  exact hx F2 H1 d1 v r2 dv
theorem so_oper {f : S → M (Vl × S)} (h : PE X e (tV Y E f)) : PE X e (tO Y E (oper none f)) := by
  refine pe_imp (so_fz h) fun σ H Q ⟨C, F, dk, s, hY, hE, r, a⟩ => ⟨C, F, dk, s, hY, hE, r, ?_⟩
  exact (M.all_bind _).mp a |>.mono (fun q hq F1 H1 d1 v r1 dv => hq F1 H1 d1 v r1 dv) fun _ _ z => z
theorem so_bor {f : S → M (Vl × S)} {i : Nat} {x : Str} {p : Pos} (h : PE X (.Name x p) (tVar i)) : PE X (.Name x p) (tO Y E (oper (some i) f)) := by
  refine pe_imp h fun σ H Q ⟨C, F, dk, s, hY, hE, r, a⟩ => ?_
  obtain ⟨y, ey, hy⟩ := M.all_ofOpt ((M.all_bind _).mp a)
  cases eg : gt s i with
  | none =>
    rw [eg] at ey
    cases ey
  | some z =>
    obtain ⟨v, fp, ev, _⟩ := r.at eg
    exact ⟨v, ev, hy F H dk v r ev⟩
/-- two operands, one behind the other -/
theorem two {f : S → M (Opr × S)} {g : S → M (Opr × S)} {α : Type} {h : Opr → Opr × S → M α} {P : α → Prop} {R : Nat → D → Prop} {C : Ct} {F H : Hp} {dk : List (Addr × Addr)} {σ : LS} {s : S} {Z : V → V → Hp → Prop}
    (hY : C.toFx = Y) (hE : C.E = E) (r : Rel C F H dk σ s) (hR : ∀ c x, R c x → RPost C c x) (a : ((f s).bind fun q => (g q.2).bind fun p => h q.1 p).All P R)
    (k : ∀ F2 H2 d2 o1 o2 s2 x y, Rel C F2 H2 d2 σ s2 → OR C F2 σ x o1 → OR C F2 σ y o2 → (h o1 (o2, s2)).All P R → Z x y H2) : tO Y E f σ H fun x H1 => tO Y E g σ H1 fun y H2 => Z x y H2 := by
  refine ⟨C, F, dk, s, hY, hE, r, ((M.all_bind _).mp a).mono (fun q hq => ?_) hR⟩
  intro F1 H1 d1 x r1 o1
  refine ⟨C.now F1 d1, F1, d1, q.2, hY, hE, r1.now, ((M.all_bind _).mp hq).mono (fun p hp => ?_) fun c z hz => (hR c z hz).now r1.w⟩
  intro F2 H2 d2 y r2 o2
  exact k F2 H2 d2 q.1 p.1 p.2 x y (r2.unnow r1.w) (o1.mono r2.w.ff) o2 hp
/-! ### new objects -/
section
variable {C : Ct} {F H : Hp} {dk : List (Addr × Addr)} {σ : LS} {s : S} {p : Addr} {ob : HO}
theorem Wd.freeF (w : Wd C F H dk) (h : H p = none) : F p = none := w.fh.free h
theorem Wd.freeB (w : Wd C F H dk) (h : H p = none) : C.B p = none := w.bh.free h
theorem Wd.freeV (w : Wd C F H dk) (h : H p = none) : p ∉ vol dk := fun z => by
  obtain ⟨q, hq, e⟩ := of_mem_vol z
  obtain ⟨h1, h2⟩ := C.dk.here H q (w.da q hq)
  rcases e with e | e
  · rw [e] at h; exact h1 h
  · rw [e] at h; exact h2 h
theorem same_upd {G : Hp} (h : G p = none) : Same G (upd G p ob) := fun b u e => by
  rw [upd_ne (ne_of_none e h)]
  exact e
theorem Wd.da_upd (w : Wd C F H dk) (h : p ∉ vol dk) : ∀ q ∈ dk, C.dk.at_ (upd H p ob) q := fun q hq => by
  have m := mem_vol hq
  refine C.dk.loc H _ q ?_ ?_ (w.da q hq)
  · exact upd_ne fun e => h (e ▸ m.1)
  · exact upd_ne fun e => h (e ▸ m.2)
/-- an object that is given away at once -/
theorem Rel.newF (r : Rel C F H dk σ s) (h : H p = none) : Rel C (upd F p ob) (upd H p ob) dk σ s := by
  obtain ⟨fp, h1, h2⟩ := r.sl
  have hF := r.w.freeF h
  have hV := r.w.freeV h
  have hB := r.w.freeB h
  refine ⟨⟨fun b u e => ?_, r.w.bh.trans (same_upd h), r.w.ff.trans (same_upd hF), r.w.dd, r.w.da_upd hV, fun b hb => ?_, fun b hb h0 => ?_⟩, r.len, fp, fun i => ?_, h2⟩
  · by_cases hb : b = p
    · rw [hb, upd_same] at e ⊢; exact e
    · rw [upd_ne hb] at e ⊢; exact r.w.fh _ _ e
  · rw [upd_ne (show b ≠ p from fun e => hV (e ▸ hb))]; exact r.w.df b hb
  · rw [upd_ne (show b ≠ p from fun e => hb (e ▸ hB))]; exact r.w.fb b hb h0
  · have z := h1 i
    generalize fp i = f at z
    generalize σ.getD i none = si at z
    generalize gt s i = gi at z
    cases z with
    | no _ => exact .no _
    | d h => exact .d (Dv.mono (same_upd hF) _ _ h)
    | own q =>
      obtain ⟨o1, o2, o3, ws, o4, o5⟩ := q
      have ne := ne_of_none o4 h
      exact .own ⟨by rw [upd_ne ne]; exact o1, o2, o3, ws, by rw [upd_ne ne]; exact o4, DvL.mono (same_upd hF) _ _ o5⟩
    | deck h => exact .deck h
    | scr h => exact .scr ((same_upd hF).seq h)
/-- a new list of one's own -/
theorem Rel.newOwn (r : Rel C F H dk σ s) (h : H p = none) {vs : List V} {xs : List D} (hv : DvL C.K F vs xs) : Rel1 C F (upd H p (.lst vs)) dk σ s (.ref p) (.own xs) := by
  obtain ⟨fp, h1, h2⟩ := r.sl
  have hF := r.w.freeF h
  have hV := r.w.freeV h
  have hB := r.w.freeB h
  have own : ∀ i a, a ∈ fp i → a ≠ p := fun i a ha => by
    have z := h1 i
    generalize fp i = f at ha z
    generalize σ.getD i none = si at z
    generalize gt s i = gi at z
    cases z with
    | no _ => cases ha
    | d _ => cases ha
    | own q =>
      obtain ⟨_, _, _, ws, o4, _⟩ := q
      rw [List.mem_singleton.mp ha]
      exact ne_of_none o4 h
    | deck _ => cases ha
    | scr _ => cases ha
  refine ⟨⟨r.w.fh.trans (same_upd h), r.w.bh.trans (same_upd h), r.w.ff, r.w.dd, r.w.da_upd hV, r.w.df, r.w.fb⟩, congrArg Nat.succ r.len, fun i => match i with | 0 => [p] | i + 1 => fp i, fun i => ?_, fun i j a ha hb => ?_⟩
  · cases i with
    | zero => exact .own ⟨hF, hB, hV, vs, upd_same, hv⟩
    | succ i =>
      have z := h1 i
      have o := own i
      show SR C F (upd H p (.lst vs)) dk (σ.getD i none) (gt s i) (fp i)
      generalize fp i = f at z o
      generalize σ.getD i none = si at z
      generalize gt s i = gi at z
      cases z with
      | no _ => exact .no _
      | d h => exact .d h
      | own q =>
        obtain ⟨o1, o2, o3, ws, o4, o5⟩ := q
        exact .own ⟨o1, o2, o3, ws, by rw [upd_ne (o _ (by simp))]; exact o4, o5⟩
      | deck h => exact .deck h
      | scr h => exact .scr h
  · cases i with
    | zero =>
      cases j with
      | zero => rfl
      | succ j => exact absurd (List.mem_singleton.mp ha) (own j a hb)
    | succ i =>
      cases j with
      | zero => exact absurd (List.mem_singleton.mp hb) (own i a ha)
      | succ j => exact congrArg Nat.succ (h2 i j a ha hb)
theorem Rel.newTup (r : Rel C F H dk σ s) (h : H p = none) {vs : List V} {xs : List D} (hv : DvL C.K F vs xs) : Rel1 C (upd F p (.tup vs)) (upd H p (.tup vs)) dk σ s (.ref p) (.d (.tuple xs)) :=
  (r.newF h).with_d (.tup (.inl (.inl upd_same)) (DvL.mono (same_upd (r.w.freeF h)) _ _ hv))
end
/-! ### operators over data -/
def rD (Y : Fx) (g : D → D → Option Vl) : R2 := fun x y H Q => ∃ (C : Ct) (F : Hp) (dk : List (Addr × Addr)) (σ : LS) (s : S) (dx dy : D) (v : Vl), C.toFx = Y ∧ Rel C F H dk σ s ∧ Rv C.K F H x dx ∧ Rv C.K F H y dy ∧ g dx dy = some v ∧
  ∀ F' H' dk' z, Rel1 C F' H' dk' σ s z v → Q z H'
/-- a product that the model makes -/
theorem op_mulAny : OpR X (binaryOp .Mult) (rI IntMulOk fun i j => .int (i * j)) := opI fun _ _ _ _ _ _ _ hc q => PyProof.Rows.mul_int q hc
def opOf : Op → Operator
  | .add => .Add | .sub => .Sub | .mul => .Mult | .fdiv => .FloorDiv | .mod => .Mod | .pow => .Pow | .shl => .LShift | .shr => .RShift
theorem line_eq : sizeLine = 16777216 := sizeLine_eq
theorem ite_some {α : Type} {c : Prop} [Decidable c] {a b : α} (h : (if c then some a else none) = some b) : c ∧ a = b := by
  by_cases hc : c
  · rw [if_pos hc] at h; exact ⟨hc, Option.some.inj h⟩
  · rw [if_neg hc] at h; cases h
theorem opD_int {o : Operator} {r : R2} (hr : OpR X (binaryOp o) r) {pins : List (Addr × Obj)} {s : Shared} {σ : LS} {H : Hp} {x y : V} {v u : Value} {Q : VK} (I : Inv X pins σ H s) (rx : RelV x v) (ry : RelV y u) (h : r x y H Q) :
    wpAny (model X.prog X.w) X.A (binaryOp o v u) (EP X pins σ Q) X.xe s := hr pins s σ H x y v u Q I rx ry h
section
variable {C : Ct} {F H : Hp} {dk : List (Addr × Addr)} {σ : LS} {s : S} {v : V}
theorem Rv.int_ {i : Int} (h : Rv C.K F H v (.int i)) : v = .int i := by
  have h' : Dv C.K F v (.int i) := h
  cases h'
  rfl
theorem Rv.tup_ {xs : List D} (w : Wd C F H dk) (h : Rv C.K F H v (.tuple xs)) : ∃ a vs, v = .ref a ∧ SqT C.K H a vs ∧ DvL C.K F vs xs := by
  have h' : Dv C.K F v (.tuple xs) := h
  cases h' with
  | tup e r => exact ⟨_, _, rfl, same_tup w.fh e, r⟩
end
theorem opD (hK : X.K = Y.K) (o : Op) : OpR X (binaryOp (opOf o)) (rD Y (binD o)) := by
  intro pins s σ H x y v u Q I rx ry ⟨C, F, dk, τ, t, dx, dy, z, hY, r, hx, hy, e, q⟩
  have hCK : C.K = X.K := by rw [hK, ← hY]
  have fin : ∀ {i : Int}, z = .d (.int i) → Q (.int i) H := fun {i} ez => q F H dk (.int i) (by rw [ez]; exact r.with_d (.int i))
  have twoI : ∀ {i j : Int}, dx = .int i → dy = .int j → x = .int i ∧ y = .int j := fun e1 e2 => by
    rw [e1] at hx
    rw [e2] at hy
    exact ⟨hx.int_, hy.int_⟩
  cases o with
  | add =>
    cases dx with
    | int i =>
      cases dy with
      | int j =>
        obtain ⟨e1, e2⟩ := twoI rfl rfl
        exact opD_int op_add I rx ry ⟨i, j, e1, e2, fin (Option.some.inj e).symm⟩
      | _ => cases e
    | tuple xs =>
      cases dy with
      | tuple ys =>
        obtain ⟨hz, ez⟩ := ite_some e
        obtain ⟨a, vs, rfl, ha, dv⟩ := hx.tup_ r.w
        obtain ⟨b, ws, rfl, hb, dw⟩ := hy.tup_ r.w
        rw [hCK] at ha hb
        refine opD_int op_catA I rx ry ⟨a, b, vs, ws, rfl, rfl, ha, hb, by rw [dv.length, dw.length, line_eq]; exact hz, fun e0 => ?_, fun _ e0 => ?_, fun _ _ p hp => ?_⟩
        · subst e0
          cases xs with
          | nil => exact q F H dk _ (by rw [← ez]; exact r.with_d hy)
          | cons _ _ => cases dv
        · subst e0
          cases ys with
          | nil => exact q F H dk _ (by rw [← ez, List.append_nil]; exact r.with_d hx)
          | cons _ _ => cases dw
        · exact q _ _ dk _ (by rw [← ez]; exact r.newTup hp (dv.append dw))
      | _ => cases e
    | list xs =>
      cases dy with
      | list ys =>
        obtain ⟨hz, ez⟩ := ite_some e
        obtain ⟨a, vs, rfl, ha, dv⟩ := hx
        obtain ⟨b, ws, rfl, hb, dw⟩ := hy
        exact opD_int op_cat I rx ry ⟨a, b, vs, ws, rfl, rfl, ha, hb, by rw [dv.length, dw.length, line_eq]; exact hz, fun p hp => q _ _ dk _ (by rw [← ez]; exact r.newOwn hp (dv.append dw))⟩
      | _ => cases e
    | _ => cases e
  | sub =>
    cases dx with
    | int i =>
      cases dy with
      | int j =>
        obtain ⟨e1, e2⟩ := twoI rfl rfl
        exact opD_int op_sub I rx ry ⟨i, j, e1, e2, fin (Option.some.inj e).symm⟩
      | _ => cases e
    | _ => cases e
  | mul =>
    cases dx with
    | int i =>
      cases dy with
      | int j =>
        obtain ⟨e1, e2⟩ := twoI rfl rfl
        obtain ⟨hb, ez⟩ := ite_some e
        exact opD_int op_mulAny I rx ry ⟨i, j, e1, e2, hb, fin ez.symm⟩
      | _ => cases e
    | list xs =>
      cases dy with
      | int k =>
        obtain ⟨⟨h1, h2, h3⟩, ez⟩ := ite_some e
        obtain ⟨a, vs, rfl, ha, dv⟩ := hx
        have ey := hy.int_
        subst ey
        exact opD_int op_rep I rx ry ⟨a, k, vs, rfl, rfl, ha, h2, h3, by rw [dv.length, line_eq]; exact h1, fun p hp => q _ _ dk _ (by rw [← ez]; exact r.newOwn hp (dv.flat _))⟩
      | _ => cases e
    | tuple xs =>
      cases dy with
      | int k =>
        have e0 : (if (xs = [] ∨ k = 1) ∧ -1000 ≤ k ∧ k ≤ 1000 then some (Vl.d (.tuple xs)) else if xs ≠ [] ∧ 2 ≤ k ∧ k ≤ 1000 ∧ xs.length ≤ 1000 then some (.d (.tuple (rep xs k))) else none) = some z := e
        obtain ⟨a, vs, rfl, ha, dv⟩ := hx.tup_ r.w
        have ey := hy.int_
        subst ey
        rw [hCK] at ha
        by_cases hs : (xs = [] ∨ k = 1) ∧ -1000 ≤ k ∧ k ≤ 1000
        · rw [if_pos hs] at e0
          refine opD_int op_repS I rx ry ⟨a, k, vs, rfl, rfl, ha, hs.1.imp (fun e1 => ?_) id, hs.2.1, hs.2.2, q F H dk _ (by rw [← Option.some.inj e0]; exact r.with_d hx)⟩
          subst e1
          cases dv
          rfl
        rw [if_neg hs] at e0
        obtain ⟨⟨h1, h2, h3, h4⟩, ez⟩ := ite_some e0
        refine opD_int op_repT I rx ry ⟨a, k, vs, rfl, rfl, ha, fun e0 => ?_, h2, h3, by rw [dv.length]; exact h4, fun p hp => q _ _ dk _ (by rw [← ez]; exact r.newTup hp (dv.flat _))⟩
        subst e0
        cases dv
        exact h1 rfl
      | _ => cases e
    | _ => cases e
  | fdiv =>
    cases dx with
    | int i =>
      cases dy with
      | int j =>
        obtain ⟨e1, e2⟩ := twoI rfl rfl
        obtain ⟨hb, ez⟩ := ite_some e
        exact opD_int op_fdivW I rx ry ⟨i, j, e1, e2, hb, fin ez.symm⟩
      | _ => cases e
    | _ => cases e
  | mod =>
    cases dx with
    | int i =>
      cases dy with
      | int j =>
        obtain ⟨e1, e2⟩ := twoI rfl rfl
        obtain ⟨hb, ez⟩ := ite_some e
        exact opD_int op_mod I rx ry ⟨i, j, e1, e2, hb, fin ez.symm⟩
      | _ => cases e
    | _ => cases e
  | pow =>
    cases dx with
    | int i =>
      cases dy with
      | int j =>
        obtain ⟨e1, e2⟩ := twoI rfl rfl
        obtain ⟨hb, ez⟩ := ite_some e
        exact opD_int op_pow I rx ry ⟨i, j, e1, e2, hb, fin ez.symm⟩
      | _ => cases e
    | _ => cases e
  | shl =>
    cases dx with
    | int i =>
      cases dy with
      | int j =>
        obtain ⟨e1, e2⟩ := twoI rfl rfl
        obtain ⟨hb, ez⟩ := ite_some e
        exact opD_int op_shl I rx ry ⟨i, j, e1, e2, hb, fin ez.symm⟩
      | _ => cases e
    | _ => cases e
  | shr =>
    cases dx with
    | int i =>
      cases dy with
      | int j =>
        obtain ⟨e1, e2⟩ := twoI rfl rfl
        obtain ⟨hb, ez⟩ := ite_some e
        exact opD_int op_shr I rx ry ⟨i, j, e1, e2, hb, fin ez.symm⟩
      | _ => cases e
    | _ => cases e

/-! ### comparisons over data -/
def rC (Y : Fx) (g : D → D → Option Bool) : R2 := fun x y H Q => ∃ (C : Ct) (F : Hp) (dx dy : D) (b : Bool), C.toFx = Y ∧ Same F H ∧ Rv C.K F H x dx ∧ Rv C.K F H y dy ∧ g dx dy = some b ∧ Q (.bl b) H
def cmOf : Cm → CmpOp
  | .eq => .Eq | .ne => .NotEq | .lt => .Lt | .le => .LtE | .gt => .Gt | .ge => .GtE | .isN => .Is | .notN => .IsNot | .inn => .In | .notIn => .NotIn
theorem Rv.dp {K : Frag} {F H : Hp} (sf : Same F H) {v : V} {x : D} (c : x.canLay0 = true) (h : Rv K F H v x) : Dp K H v x := by
  cases x with
  | list xs =>
    obtain ⟨a, vs, rfl, ha, dv⟩ := h
    exact .lst (SqL.of ha) (DvL.dp sf _ _ (by simpa only [PyData.canLay0] using c) dv)
  | none => exact Dv.dp sf _ _ c (show Dv K F v .none from h)
  | bool b => exact Dv.dp sf _ _ c (show Dv K F v (.bool b) from h)
  | int b => exact Dv.dp sf _ _ c (show Dv K F v (.int b) from h)
  | str b => exact Dv.dp sf _ _ c (show Dv K F v (.str b) from h)
  | tuple b => exact Dv.dp sf _ _ c (show Dv K F v (.tuple b) from h)
  | dict b => exact Dv.dp sf _ _ c (show Dv K F v (.dict b) from h)
theorem rv_none {K : Frag} {F H : Hp} {v : V} {x : D} (h : Rv K F H v x) : decide (v = V.non) = isN x := by
  cases x with
  | list xs => obtain ⟨a, vs, rfl, _⟩ := h; rfl
  | none => have h' : Dv K F v .none := h; cases h'; rfl
  | bool b => have h' : Dv K F v (.bool b) := h; cases h'; rfl
  | int b => have h' : Dv K F v (.int b) := h; cases h'; rfl
  | str b => have h' : Dv K F v (.str b) := h; cases h'; rfl
  | tuple b => have h' : Dv K F v (.tuple b) := h; cases h'; rfl
  | dict b => have h' : Dv K F v (.dict b) := h; cases h'; rfl
/-- a flat datum's value -/
def flV : D → V
  | .bool b => .bl b
  | .int i => .int i
  | .str x => .str x
  | _ => .non
theorem flat_dv {K : Frag} {F : Hp} {v : V} {x : D} (hf : flatD x = true) (h : Dv K F v x) : v = flV x ∧ flatV v = true := by
  cases h with
  | non => exact ⟨rfl, rfl⟩
  | bl b => exact ⟨rfl, rfl⟩
  | int i => exact ⟨rfl, rfl⟩
  | str x => exact ⟨rfl, rfl⟩
  | lst _ _ => cases hf
  | tup _ _ => cases hf
  | dic _ => cases hf
theorem flat_eqv {x y : D} (hx : flatD x = true) (hy : flatD y = true) : eqV (flV x) (flV y) = PyData.eqv x y := by
  cases x <;> cases y <;> first | (cases hx; done) | (cases hy; done) | (simp only [flV, eqV, PyData.eqv])
theorem flat_all {K : Frag} {F : Hp} : ∀ {ds : List D} {vs : List V}, ds.all flatD = true → DvL K F vs ds → vs = ds.map flV ∧ vs.all flatV = true
  | [], _, _, h => by cases h; exact ⟨rfl, rfl⟩
  | d :: ds, _, c, h => by
    obtain ⟨c1, c2⟩ := Bool.and_eq_true_iff.mp (by simpa only [List.all_cons] using c)
    cases h with
    | cons a r =>
      obtain ⟨e1, e2⟩ := flat_dv c1 a
      obtain ⟨e3, e4⟩ := flat_all c2 r
      exact ⟨by rw [e1, e3]; rfl, by rw [List.all_cons, e2, e4]; rfl⟩
theorem flat_in {x : D} (hx : flatD x = true) : ∀ {ds : List D}, ds.all flatD = true → inV (flV x) (ds.map flV) = ds.any fun y => PyData.eqv y x
  | [], _ => rfl
  | d :: ds, c => by
    obtain ⟨c1, c2⟩ := Bool.and_eq_true_iff.mp (by simpa only [List.all_cons] using c)
    show (eqV (flV d) (flV x) || inV (flV x) (ds.map flV)) = (PyData.eqv d x || ds.any fun y => PyData.eqv y x)
    rw [flat_eqv c1 hx, flat_in hx c2]
theorem Rv.flat {K : Frag} {F H : Hp} {v : V} {x : D} (hf : flatD x = true) (h : Rv K F H v x) : v = flV x ∧ flatV v = true := by
  cases x with
  | list xs => cases hf
  | tuple xs => cases hf
  | dict xs => cases hf
  | none => exact flat_dv hf (show Dv K F v .none from h)
  | bool b => exact flat_dv hf (show Dv K F v (.bool b) from h)
  | int b => exact flat_dv hf (show Dv K F v (.int b) from h)
  | str b => exact flat_dv hf (show Dv K F v (.str b) from h)
theorem opR_in {neg : Bool} {o : CmpOp} (hr : OpR X (compareOp o) (rIn X.K neg)) {C : Ct} {F H : Hp} (hCK : C.K = X.K) (sf : Same F H) {pins : List (Addr × Obj)} {s : Shared} {σ : LS} {x y : V} {v u : Value} {Q : VK} (I : Inv X pins σ H s) (rx : RelV x v) (ry : RelV y u)
    {dx : D} {ys : List D} {b : Bool} (hx : Rv C.K F H x dx) (hy : ∃ a vs, y = .ref a ∧ (SqL C.K H a vs ∨ SqT C.K H a vs) ∧ DvL C.K F vs ys) (e : inD dx ys = some b) (q : Q (.bl (if neg then !b else b)) H) :
    wpAny (model X.prog X.w) X.A (compareOp o v u) (EP X pins σ Q) X.xe s := by
  obtain ⟨hc, eb⟩ := ite_some e
  obtain ⟨c1, c2⟩ := Bool.and_eq_true_iff.mp hc
  obtain ⟨a, vs, rfl, hs, dv⟩ := hy
  obtain ⟨e1, f1⟩ := hx.flat c1
  obtain ⟨e2, f2⟩ := flat_all c2 dv
  rw [hCK] at hs
  refine hr pins s σ H _ _ v u Q I rx ry ⟨a, vs, rfl, hs, f1, f2, ?_⟩
  rw [e1, e2, flat_in c1 c2, eb]
  exact q
theorem cmD (hK : X.K = Y.K) (hu : X.A.units + 64 < cLine) (o : Cm) : OpR X (compareOp (cmOf o)) (rC Y (cmpD o)) := by
  intro pins s σ H x y v u Q I rx ry ⟨C, F, dx, dy, b, hY, sf, hx, hy, e, q⟩
  have hCK : C.K = X.K := by rw [hK, ← hY]
  have cmpI : ∀ {p : Int → Int → Bool} {op : CmpOp}, OpR X (compareOp op) (rI0 fun i j => .bl (p i j)) → (∃ i j, dx = .int i ∧ dy = .int j ∧ p i j = b) → wpAny (model X.prog X.w) X.A (compareOp op v u) (EP X pins σ Q) X.xe s := fun {p op} hr h => by
    obtain ⟨i, j, e1, e2, e3⟩ := h
    subst e1 e2
    have f1 := hx.int_
    have f2 := hy.int_
    exact hr pins s σ H x y v u Q I rx ry ⟨i, j, f1, f2, by show Q (.bl (p i j)) H; rw [e3]; exact q⟩
  cases o with
  | eq =>
    obtain ⟨hc, eb⟩ := ite_some e
    rcases Bool.or_eq_true_iff.mp hc with hc | hc
    rotate_left
    · cases dx with
      | str a =>
        cases dy with
        | str b' =>
          have hx' : Dv C.K F x (.str a) := hx
          have hy' : Dv C.K F y (.str b') := hy
          cases hx'
          cases hy'
          refine op_eq pins s σ H _ _ v u Q I rx ry ⟨rfl, ?_⟩
          rw [dec_str]
          have e1 : ((a == b')) = b := by rw [← eb]; simp only [PyData.eqv]
          rw [e1]
          exact q
        | _ => cases hc
      | _ => cases hc
    obtain ⟨c1, c2⟩ := Bool.and_eq_true_iff.mp hc
    refine op_eqD hu pins s σ H x y v u Q I rx ry ⟨dx, dy, ?_, ?_, c1, c2, by rw [eb]; exact q⟩
    · rw [← hCK]; exact hx.dp sf (SeqAt.canLay_of_shaped c1)
    · rw [← hCK]; exact hy.dp sf (SeqAt.canLay_of_shaped c2)
  | ne =>
    obtain ⟨hc, eb⟩ := ite_some e
    rcases Bool.or_eq_true_iff.mp hc with hc | hc
    rotate_left
    · cases dx with
      | str a =>
        cases dy with
        | str b' =>
          have hx' : Dv C.K F x (.str a) := hx
          have hy' : Dv C.K F y (.str b') := hy
          cases hx'
          cases hy'
          refine op_ne pins s σ H _ _ v u Q I rx ry ⟨rfl, ?_⟩
          rw [dec_str]
          have e1 : (!(a == b')) = b := by rw [← eb]; simp only [PyData.eqv]
          rw [e1]
          exact q
        | _ => cases hc
      | _ => cases hc
    obtain ⟨c1, c2⟩ := Bool.and_eq_true_iff.mp hc
    refine op_neD hu pins s σ H x y v u Q I rx ry ⟨dx, dy, ?_, ?_, c1, c2, by rw [eb]; exact q⟩
    · rw [← hCK]; exact hx.dp sf (SeqAt.canLay_of_shaped c1)
    · rw [← hCK]; exact hy.dp sf (SeqAt.canLay_of_shaped c2)
  | lt =>
    refine cmpI op_lt ?_
    cases dx with
    | int i =>
      cases dy with
      | int j => exact ⟨i, j, rfl, rfl, Option.some.inj e⟩
      | _ => cases e
    | _ => cases e
  | le =>
    refine cmpI op_le ?_
    cases dx with
    | int i =>
      cases dy with
      | int j => exact ⟨i, j, rfl, rfl, Option.some.inj e⟩
      | _ => cases e
    | _ => cases e
  | gt =>
    refine cmpI op_gt ?_
    cases dx with
    | int i =>
      cases dy with
      | int j => exact ⟨i, j, rfl, rfl, Option.some.inj e⟩
      | _ => cases e
    | _ => cases e
  | ge =>
    refine cmpI op_ge ?_
    cases dx with
    | int i =>
      cases dy with
      | int j => exact ⟨i, j, rfl, rfl, Option.some.inj e⟩
      | _ => cases e
    | _ => cases e
  | isN =>
    cases dy with
    | none =>
      have ey : y = .non := by
        have h' : Dv C.K F y .none := hy
        cases h'
        rfl
      exact op_isN pins s σ H x y v u Q I rx ry ⟨ey, by rw [rv_none hx, Option.some.inj e]; exact q⟩
    | _ => cases e
  | notN =>
    cases dy with
    | none =>
      have ey : y = .non := by
        have h' : Dv C.K F y .none := hy
        cases h'
        rfl
      exact op_notN pins s σ H x y v u Q I rx ry ⟨ey, by rw [rv_none hx, Option.some.inj e]; exact q⟩
    | _ => cases e
  | inn =>
    cases dy with
    | list ys =>
      obtain ⟨a, vs, ey, ha, dv⟩ := hy
      exact opR_in (neg := false) op_in_seq hCK sf I rx ry hx ⟨a, vs, ey, .inl (SqL.of ha), dv⟩ e q
    | tuple ys =>
      have h' : Dv C.K F y (.tuple ys) := hy
      cases h' with
      | tup ha dv => exact opR_in (neg := false) op_in_seq hCK sf I rx ry hx ⟨_, _, rfl, .inr (same_tup sf ha), dv⟩ e q
    | _ => cases e
  | notIn =>
    have e' : ∃ ys b', inD dx ys = some b' ∧ (!b') = b ∧ ∃ a vs, y = .ref a ∧ (SqL C.K H a vs ∨ SqT C.K H a vs) ∧ DvL C.K F vs ys := by
      cases dy with
      | list ys =>
        obtain ⟨a, vs, ey, ha, dv⟩ := hy
        have e1 : (inD dx ys).map (!·) = some b := e
        cases h : inD dx ys with
        | none => rw [h] at e1; cases e1
        | some b' => rw [h] at e1; exact ⟨ys, b', h, Option.some.inj e1, a, vs, ey, .inl (SqL.of ha), dv⟩
      | tuple ys =>
        have h' : Dv C.K F y (.tuple ys) := hy
        have e1 : (inD dx ys).map (!·) = some b := e
        cases h' with
        | tup ha dv =>
          cases h : inD dx ys with
          | none => rw [h] at e1; cases e1
          | some b' => rw [h] at e1; exact ⟨ys, b', h, Option.some.inj e1, _, _, rfl, .inr (same_tup sf ha), dv⟩
      | _ => cases e
    obtain ⟨ys, b', e1, e2, hs⟩ := e'
    exact opR_in (neg := true) op_notIn_seq hCK sf I rx ry hx hs e1 (by rw [if_pos rfl, e2]; exact q)
/-! ### truth -/
theorem truV {C : Ct} {F H : Hp} (sf : Same F H) {v : V} {x : D} {b : Bool} (h : Rv C.K F H v x) (e : truth x = some b) : TruV C.K v H b := by
  cases x with
  | list xs =>
    obtain ⟨a, vs, rfl, ha, dv⟩ := h
    have eb := Option.some.inj e
    refine .inl ⟨vs, SqL.of ha, ?_⟩
    rw [← eb]
    cases dv <;> rfl
  | none => have h' : Dv C.K F v .none := h; cases h'; exact (Option.some.inj e).symm
  | bool k => have h' : Dv C.K F v (.bool k) := h; cases h'; exact (Option.some.inj e).symm
  | int k => have h' : Dv C.K F v (.int k) := h; cases h'; exact (Option.some.inj e).symm
  | str k =>
    have h' : Dv C.K F v (.str k) := h
    cases h'
    obtain ⟨c, eb⟩ := ite_some e
    exact ⟨by rw [line_eq]; exact c, eb.symm⟩
  | tuple xs =>
    have h' : Dv C.K F v (.tuple xs) := h
    cases h' with
    | tup ha dv =>
      have eb := Option.some.inj e
      refine .inr (.inl ⟨_, same_tup sf ha, ?_⟩)
      rw [← eb]
      cases dv <;> rfl
  | dict kvs =>
    have h' : Dv C.K F v (.dict kvs) := h
    cases h' with
    | dic ha =>
      have eb := Option.some.inj e
      exact .inr (.inr ⟨[], sf _ _ ha, by rw [← eb]; rfl⟩)
end
end TP
end

section
set_option linter.all false
set_option maxRecDepth 100000
/-! Rules that the layer does not have: a tuple backwards, math.comb, repr, isinstance of data. -/
namespace TP
open PySem L2 PySem.Spec PyProof.Rows
/-! ### a tuple backwards -/
theorem adj_back (n : Nat) : Builtin.Slice.sliceAdjust none none (-1) (n : Int) = ((n : Int) - 1, -1) := by
  unfold Builtin.Slice.sliceAdjust
  simp
theorem places_back (n : Nat) : Builtin.Slice.slicePlaces ((n : Int) - 1) (-1) (-1) = n := by
  unfold Builtin.Slice.slicePlaces
  have h1 : ¬ ((-1 : Int) > 0) := by decide
  have h2 : (- (-1) : Int) = 1 := by decide
  simp only [h1, if_false, h2, Int.ediv_one]
  split <;> omega
theorem pick_back (xs : Array Value) : ((List.range xs.size).filterMap fun (k : Nat) => xs[(((xs.size : Nat) : Int) - 1 + (k : Int) * (-1)).toNat]?).toArray = xs.toList.reverse.toArray := by
  have e : ((List.range xs.size).filterMap fun (k : Nat) => xs[(((xs.size : Nat) : Int) - 1 + (k : Int) * (-1)).toNat]?) = ((List.range xs.size).map fun k => xs.size - 1 - k).filterMap (xs[·]?) := by
    rw [List.filterMap_map]
    congr 1
    funext k
    show xs[(((xs.size : Nat) : Int) - 1 + (k : Int) * (-1)).toNat]? = xs[xs.size - 1 - k]?
    rw [show (((xs.size : Nat) : Int) - 1 + (k : Int) * (-1)).toNat = xs.size - 1 - k by omega]
  rw [e, PySem.W.krv_range, List.filterMap_reverse, PySem.W.krv_all]
section
variable {prog : Program} {w : World} {A : Around} {E : Value → Shared → Prop} {s : Shared}
theorem item_back {t sl : Addr} {items : Array Value} {vs : Value} {Q : Value → Shared → Prop} (ht : IsTup s.heap t items) (hs : s.heap.IsSliceOf sl .none .none vs) (pv : IsPart vs (some (-1)))
    (h : Q (.ref s.heap.objs.size) { s with heap := s.heap.push { cls := .type "tuple", data := .seq items.toList.reverse.toArray } }) (hsz : items.size ≤ sizeLine) : wpAny (model prog w) A (getItem (.ref t) (.ref sl)) Q E s := by
  have hok : sizeOk (.seq items.toList.reverse.toArray) := by
    show items.toList.reverse.toArray.size ≤ sizeLine
    rw [List.size_toArray, List.length_reverse, Array.length_toList]
    exact hsz
  obtain ⟨os, hos, hcs, hds⟩ := id hs
  have hTs : s.TypeIs (.ref sl) "slice" := ⟨os, hos, hcs⟩
  unfold getItem
  try with_reducible refine wpAny_holding ?_
  first | refine wpAny_bind (wpAny_pure ?_) | skip
  refine wpAny_bind (wpAny_sequenceKey ht.typeIs (by decide) ?_)
  refine wpAny_bind (wpAny_callSpecial?_slot (name := Str.ofString "__getitem__") ht.typeIs PyProof.Rows.slot_tuple_getitem
    (wpAny_call_entry PyProof.Rows.slot_tuple_getitem ht.typeIs entry_tuple_getitem ?_ (args_tuple_getitem _ _)))
  show wpAny _ _ (Builtin.Tuple.tupleItemsOf (.ref t) >>= _) _ _ s
  refine wpAny_bind (tupleItemsOf_ ht ?_)
  refine wpAny_bind (wpAny_typeOf hTs ?_)
  rw [if_pos (by decide)]
  have sa : ∀ {R : Int × Int × Nat → Shared → Prop}, R (((items.size : Nat) : Int) - 1, -1, items.size) s → wpAny (model prog w) A.in1 (Builtin.Slice.sliceApplied (.ref sl) (pure ((items.size : Nat) : Int))) R (fun _ _ => False) s := fun {R} hr => by
    unfold Builtin.Slice.sliceApplied Builtin.Slice.sliceFields
    refine wpAny_bind (wpAny_bind (wpAny_field hos hds (x := .none) rfl (wpAny_bind (wpAny_field hos hds (x := .none) rfl (wpAny_bind (wpAny_field hos hds (x := vs) rfl (wpAny_pure ?_)))))))
    refine wpAny_bind (HT.slicePart_ pv ?_)
    show wpAny _ _ (if ((-1 : Int) == 0) = true then _ else _) _ _ s
    rw [if_neg (by decide)]
    refine wpAny_bind (slicePart_none (wpAny_bind (slicePart_none (wpAny_bind (wpAny_pure ?_)))))
    show wpAny _ _ (match Builtin.Slice.sliceAdjust none none (-1) ((items.size : Nat) : Int) with | (lo, hi) => pure (lo, (-1 : Int), Builtin.Slice.slicePlaces lo hi (-1))) _ _ s
    rw [adj_back]
    show wpAny _ _ (pure (((items.size : Nat) : Int) - 1, (-1 : Int), Builtin.Slice.slicePlaces (((items.size : Nat) : Int) - 1) (-1) (-1))) _ _ s
    rw [places_back]
    exact wpAny_pure hr
  refine wpAny_bind (wpAny_mono (sa ?_) (fun _ _ z => z) fun _ _ z => z.elim)
  have hno : ¬ (((((items.size : Nat) : Int) - 1) == 0 && (-1 : Int) == 1 && items.size == items.size) = true) := by
    intro q
    rw [Bool.and_eq_true, Bool.and_eq_true] at q
    exact absurd q.1.2 (by decide)
  show wpAny _ _ (if ((((items.size : Nat) : Int) - 1) == 0 && (-1 : Int) == 1 && items.size == items.size) = true then _ else _) _ _ s
  rw [if_neg hno, pick_back]
  first
    | exact wpAny_bind (m := Builtin.Tuple.tupleExact _) (wpAny_newObj_type (wpAny_pure ⟨_, rfl, wpAny_pure h⟩) hok)
    | exact wpAny_bind (m := Builtin.Tuple.tupleExact _) (wpAny_newObj_type (wpAny_bind (wpAny_pure (wpAny_pure ⟨_, rfl, wpAny_pure h⟩))) hok)
    | exact wpAny_bind (wpAny_bind (m := Builtin.Tuple.tupleExact _) (wpAny_newObj_type (wpAny_pure (wpAny_pure ⟨_, rfl, wpAny_pure h⟩)) hok))
    | exact wpAny_bind (wpAny_bind (m := Builtin.Tuple.tupleExact _) (wpAny_newObj_type (wpAny_pure ⟨_, rfl, wpAny_pure h⟩) hok))
end
section
variable {X : Cx} {e : Expr}
/-- x[::-1], x a list or a tuple -/
def tBack (K : Frag) (te : TE) : TE := fun σ H Q => te σ H fun x H1 => ∃ a xs, x = .ref a ∧ ((SqL K H1 a xs ∧ ∀ p, H1 p = none → Q (.ref p) (upd H1 p (.lst xs.reverse))) ∨ (SqT K H1 a xs ∧ ∀ p, H1 p = none → Q (.ref p) (upd H1 p (.tup xs.reverse))))
theorem pe_back {te : TE} {k : Nat} {p1 p2 p3 pos : Pos} (he : PE X e te) : PE X (.Subscript e (.Slice none none (some (.UnaryOp .USub (.Constant (.int 1) k p1) p2)) p3) pos) (tBack X.K te) := by
  refine ⟨fun pins s σ H Q I h => ?_⟩
  refine Subscript_ (thn (he.run pins s σ H _ I h) fun v s1 ⟨x, H1, I1, r1, q1⟩ => ?_)
  obtain ⟨a, xs, rfl, hq⟩ := q1
  cases r1
  have ho : PO X (some (.UnaryOp .USub (.Constant (.int 1) k p1) p2)) (tPart (tUn (rU fun i => .int (-i)) (tC (.int 1)))) := po_some (pe_un un_neg pe_int)
  refine wpAny_Slice (thn (po_none.run pins s1 σ H1 (fun o H2 => o = none ∧ H2 = H1) I1 ⟨rfl, rfl⟩) fun vl s2 ⟨l, H2, I2, pl, el, e2⟩ => ?_)
  subst el e2
  refine thn (po_none.run pins s2 σ H2 (fun o H3 => o = none ∧ H3 = H2) I2 ⟨rfl, rfl⟩) fun vu s3 ⟨u, H3, I3, pu, eu, e3⟩ => ?_
  subst eu e3
  refine thn (ho.run pins s3 σ H3 (fun o H4 => o = some (-1) ∧ H4 = H3) I3 ⟨1, rfl, -1, rfl, rfl, rfl⟩) fun vs s4 ⟨o, H4, I4, pst, eo, e4⟩ => ?_
  subst eo e4
  have evl : vl = .none := by cases pl; rfl
  have evu : vu = .none := by cases pu; rfl
  subst evl evu
  have I5 : Inv X pins σ H4 { s4 with heap := s4.heap.push { cls := .type "slice", data := .fields #[.none, .none, vs] } } := I4.kept (t' := s4.toks) fun b ob q => Heap.get?_push_of_some _ q
  show wpAny (model X.prog X.w) X.A (subscriptTail e (.Slice none none (some (.UnaryOp .USub (.Constant (.int 1) k p1) p2)) p3) (.ref a) (.ref s4.heap.objs.size)) (EP X pins σ Q) X.xe { s4 with heap := s4.heap.push { cls := .type "slice", data := .fields #[.none, .none, vs] } }
  rcases hq with ⟨hx, q⟩ | ⟨hx, q⟩
  · obtain ⟨its, r, ht, hz⟩ := I5.list hx
    have hlen := r.length
    refine tail_any (ops := [.ref a, .ref s4.heap.objs.size]) ht.isList.typeIs (PySem.slot_list_getitem.lookup) ?_ (by with_unfolding_all rfl)
    refine wpAny_getItem_list_slice ht.isList (Heap.IsSliceOf.new _ .none .none vs) .none .none pst (by decide) ?_ (by rw [List.size_toArray]; omega)
    rw [PySem.W.krv_pick]
    exact ⟨.ref _, _, I5.laid (t' := s4.toks) (o := .lst xs.reverse) (fun b ob q => Heap.get?_push_of_some _ q) (Nat.le_refl _) ⟨by rw [List.length_reverse]; exact hz, _, 0, r.reverse, Heap.get?_push_size _ rfl⟩, rfl, q _ (I5.hok.fresh (Nat.le_refl _))⟩
  · obtain ⟨its, r, ht, hz⟩ := I5.tuple hx
    have hlen := r.length
    refine tail_any (ops := [.ref a, .ref s4.heap.objs.size]) ht.typeIs (PyProof.Rows.slot_tuple_getitem.lookup) ?_ (by with_unfolding_all rfl)
    refine item_back ht (Heap.IsSliceOf.new _ .none .none vs) pst ?_ (by rw [List.size_toArray]; omega)
    exact ⟨.ref _, _, I5.laid (t' := s4.toks) (o := .tup xs.reverse) (fun b ob q => Heap.get?_push_of_some _ q) (Nat.le_refl _) ⟨by rw [List.length_reverse]; exact hz, _, r.reverse, IsTup.new _ _⟩, rfl, q _ (I5.hok.fresh (Nat.le_refl _))⟩
/-! ### math.comb -/
theorem fp_succ (a : Int) (k : Nat) : Builtin.Math.fallingProduct a (k + 1) = Builtin.Math.fallingProduct a k * (a - k) := by
  unfold Builtin.Math.fallingProduct
  rw [List.range_succ, List.foldl_append]
  rfl
theorem choose_zero (n : Nat) : choose n 0 = 1 := by cases n <;> rfl
theorem choose_succ (n k : Nat) : choose (n + 1) (k + 1) = choose n k + choose n (k + 1) := rfl
theorem choose_above : ∀ (n k : Nat), n < k → choose n k = 0
  | 0, k + 1, _ => rfl
  | n + 1, k + 1, h => by rw [choose_succ, choose_above n k (by omega), choose_above n (k + 1) (by omega)]
theorem choose_self : ∀ n : Nat, choose n n = 1
  | 0 => rfl
  | n + 1 => by rw [choose_succ, choose_self n, choose_above n (n + 1) (by omega)]
/-- (k + 1) (n over k + 1) = (n - k) (n over k) -/
theorem choose_step : ∀ (n k : Nat), (k + 1) * choose n (k + 1) = (n - k) * choose n k
  | 0, k => by
    rw [show choose 0 (k + 1) = 0 from rfl]
    simp
  | n + 1, 0 => by
    have ih := choose_step n 0
    rw [choose_succ, choose_zero, choose_zero]
    rw [choose_zero] at ih
    omega
  | n + 1, k + 1 => by
    by_cases h : k ≤ n
    · have i1 := choose_step n k
      have i2 := choose_step n (k + 1)
      have e1 : (n + 1 - (k + 1)) = n - k := by omega
      rw [e1, choose_succ n (k + 1), choose_succ n k]
      by_cases h2 : k + 1 ≤ n
      · have e2 : n - k = (n - (k + 1)) + 1 := by omega
        rw [e2] at i1 ⊢
        generalize choose n k = x at *
        generalize choose n (k + 1) = y at *
        generalize choose n (k + 1 + 1) = z at *
        generalize n - (k + 1) = d at *
        have : (k + 1 + 1) * (y + z) = (k + 1) * y + y + (k + 1 + 1) * z := by
          rw [Nat.mul_add, Nat.succ_mul (k + 1) y]
        rw [this, i1, i2, Nat.mul_add, Nat.succ_mul d y]
        omega
      · have e3 : n = k := by omega
        subst e3
        rw [choose_above n (n + 1) (by omega), choose_above n (n + 1 + 1) (by omega)]
        simp
    · rw [choose_above (n + 1) (k + 1 + 1) (by omega), choose_above (n + 1) (k + 1) (by omega)]
      simp
theorem choose_sym : ∀ (n k : Nat), k ≤ n → choose n (n - k) = choose n k
  | 0, k, h => by
    have : k = 0 := by omega
    subst this
    rfl
  | n + 1, 0, _ => by rw [choose_zero]; exact choose_self _
  | n + 1, k + 1, h => by
    by_cases hk : k = n
    · subst hk
      rw [choose_self, show k + 1 - (k + 1) = 0 by omega]
      exact choose_zero _
    · have e : n + 1 - (k + 1) = (n - (k + 1)) + 1 := by omega
      rw [e, choose_succ, choose_succ, choose_sym n (k + 1) (by omega), show n - (k + 1) + 1 = n - k by omega, choose_sym n k (by omega)]
      omega
theorem fp_choose (n : Nat) : ∀ k : Nat, k ≤ n → Builtin.Math.fallingProduct (n : Int) k = (choose n k : Int) * Builtin.Math.fallingProduct (k : Int) k ∧ 0 < Builtin.Math.fallingProduct (k : Int) k
  | 0, _ => by
    rw [choose_zero]
    exact ⟨rfl, by decide⟩
  | k + 1, h => by
    obtain ⟨i1, i2⟩ := fp_choose n k (by omega)
    have fk : Builtin.Math.fallingProduct ((k + 1 : Nat) : Int) (k + 1) = ((k + 1 : Nat) : Int) * Builtin.Math.fallingProduct (k : Int) k := by
      have gen : ∀ m : Nat, Builtin.Math.fallingProduct ((k + 1 : Nat) : Int) (m + 1) = ((k + 1 : Nat) : Int) * Builtin.Math.fallingProduct (k : Int) m := fun m => by
        induction m with
        | zero =>
          rw [fp_succ]
          unfold Builtin.Math.fallingProduct
          simp
        | succ m ih =>
          rw [fp_succ, ih, fp_succ]
          rw [Int.mul_assoc]
          congr 2
          omega
      exact gen k
    have st := choose_step n k
    have st' : ((k + 1 : Nat) : Int) * (choose n (k + 1) : Int) = ((n - k : Nat) : Int) * (choose n k : Int) := by
      rw [← Int.natCast_mul, st, Int.natCast_mul]
    refine ⟨?_, ?_⟩
    · rw [fp_succ, i1, fk]
      have e : (n : Int) - (k : Int) = ((n - k : Nat) : Int) := by omega
      rw [e]
      generalize Builtin.Math.fallingProduct (k : Int) k = f at *
      generalize (choose n (k + 1) : Int) = y at *
      generalize (choose n k : Int) = x at *
      generalize ((n - k : Nat) : Int) = d at *
      generalize ((k + 1 : Nat) : Int) = c at *
      have : x * f * d = (d * x) * f := by
        rw [Int.mul_comm (x * f) d, Int.mul_assoc]
      rw [this, ← st', Int.mul_comm c y, Int.mul_assoc]
    · rw [fk]
      exact Int.mul_pos (by omega) i2
theorem mcComb_choose (a b : Nat) : PySem.W.mcComb (a : Int) (b : Int) = (choose a b : Int) := by
  by_cases h : b ≤ a
  · have hm : min (b : Int) ((a : Int) - b) = ((min b (a - b) : Nat) : Int) := by omega
    rw [PySem.W.mcComb_at (by omega) (by omega) hm, Int.toNat_natCast]
    have hle : min b (a - b) ≤ a := by omega
    obtain ⟨h1, h2⟩ := fp_choose a (min b (a - b)) hle
    rw [h1, Int.mul_ediv_cancel _ (by omega)]
    by_cases hb : b ≤ a - b
    · rw [Nat.min_eq_left hb]
    · rw [Nat.min_eq_right (by omega), choose_sym a b h]
  · rw [PySem.W.mcComb_above (by omega), choose_above a b (by omega)]
    rfl
def rComb : List V → Hp → VK → Prop := fun vs H Q => ∃ i j : Int, vs = [.int i, .int j] ∧ 0 ≤ i ∧ 0 ≤ j ∧ i ≤ 1000 ∧ j ≤ 1000 ∧ Q (.int (choose i.toNat j.toNat)) H
theorem cr_comb : CallR X (.builtin "math.comb") rComb := by
  intro pins s σ H vs us Q I r h
  obtain ⟨a, b, rfl, h1, h2, h3, h4, q⟩ := h
  obtain ⟨t, u, rfl⟩ := Vals.int2 r
  refine PySem.W.mc_comb h1 h2 (by omega) (.inl (by omega)) fun _ => ⟨.int _, H, I.tok _, ⟨_, rfl⟩, ?_⟩
  have e := mcComb_choose a.toNat b.toNat
  rw [Int.toNat_of_nonneg h1, Int.toNat_of_nonneg h2] at e
  rw [e]
  exact q
/-! ### repr -/
theorem Dp.noDict {K : Frag} {H : Hp} : ∀ (d : D) (v : V), Dp K H v d → d.hasDict = false := by
  have both : ∀ (n : Nat), (∀ (d : D) (v : V), sizeOf d < n → Dp K H v d → d.hasDict = false) ∧ (∀ (ds : List D) (vs : List V), sizeOf ds < n → DpAll K H vs ds → PyData.hasDictAll ds = false) := by
    intro n
    induction n with
    | zero => exact ⟨fun _ _ h => absurd h (Nat.not_lt_zero _), fun _ _ h => absurd h (Nat.not_lt_zero _)⟩
    | succ n ih =>
      refine ⟨fun d v h r => ?_, fun ds vs h r => ?_⟩
      · cases r with
        | non => simp only [PyData.hasDict]
        | bl b => simp only [PyData.hasDict]
        | int b => simp only [PyData.hasDict]
        | str b => simp only [PyData.hasDict]
        | lst _ r =>
          simp only [PyData.hasDict]
          simp at h
          exact ih.2 _ _ (by omega) r
        | tup _ r =>
          simp only [PyData.hasDict]
          simp at h
          exact ih.2 _ _ (by omega) r
      · cases r with
        | nil => simp only [PyData.hasDictAll]
        | cons a b =>
          simp at h
          simp only [PyData.hasDictAll]
          rw [ih.1 _ _ (by omega) a, ih.2 _ _ (by omega) b]
          rfl
  intro d v r
  exact (both (sizeOf d + 1)).1 d v (Nat.lt_succ_self _) r
theorem cr_repr (hg : X.A.guards = some []) (hu : X.A.units + 200 < cLine) : CallR X (.builtin "repr") (fun vs H Q => ∃ v d, vs = [v] ∧ Dp X.K H v d ∧ d.showable = true ∧ d.shown.length ≤ sizeLine ∧ d.depth ≤ 64 ∧ Q (.str d.shown) H) := by
  intro pins s σ H vs us Q I r h
  obtain ⟨v, d, rfl, hd, h1, h2, h3, q⟩ := h
  obtain ⟨u, rfl, ru⟩ := vals1 r
  obtain ⟨as, rd⟩ := Dp.reads I d v u hd ru
  have fin : ∀ (h' : Heap) (tk : Tok) (t : Nat), (∀ b o, s.heap.get? b = some o → h'.get? b = some o) → EP X pins σ Q (.str d.shown tk) { s with heap := h', toks := t } := fun h' tk t k => ⟨.str d.shown, H, I.kept (t' := t) k, ⟨_, rfl⟩, q⟩
  cases hd with
  | non =>
    cases ru
    have q' : EP X pins σ Q (.str "None" s.toks) { s with toks := s.toks + 1 } := by
      have := fin s.heap s.toks (s.toks + 1) fun _ _ e => e
      simpa only [PyData.shown] using this
    exact PySem.P.repr_of_none q'
  | bl b =>
    cases ru
    have q' : EP X pins σ Q (.str (if b then "True" else "False") s.toks) { s with toks := s.toks + 1 } := by
      have := fin s.heap s.toks (s.toks + 1) fun _ _ e => e
      simpa only [PyData.shown] using this
    exact PySem.P.repr_of_bool q'
  | int i =>
    obtain ⟨t, rfl⟩ := ru
    have q' : EP X pins σ Q (.str (toString i) s.toks) { s with toks := s.toks + 1 } := by
      have := fin s.heap s.toks (s.toks + 1) fun _ _ e => e
      simpa only [PyData.shown] using this
    exact PySem.P.repr_of_int (by simpa [PyData.showable] using h1) q'
  | str x =>
    obtain ⟨t, rfl⟩ := ru
    have q' : EP X pins σ Q (.str (reprText x) s.toks) { s with toks := s.toks + 1 } := by
      have := fin s.heap s.toks (s.toks + 1) fun _ _ e => e
      simpa only [PyData.shown] using this
    exact PySem.P.repr_of_str q' (by simpa only [PyData.shown] using h2)
  | lst a b =>
    cases ru
    exact repr_of_reads' rd h1 (fun z => by rw [Dp.noDict _ _ (Dp.lst a b)] at z; cases z) hg (by omega) (fun _ _ e => e) (fun h' u tk k => fin h' u tk k) h2
  | tup a b =>
    cases ru
    exact repr_of_reads' rd h1 (fun z => by rw [Dp.noDict _ _ (Dp.tup a b)] at z; cases z) hg (by omega) (fun _ _ e => e) (fun h' u tk k => fin h' u tk k) h2
end
end TP
end

section
set_option linter.all false
set_option maxRecDepth 100000
/-! More rules that the layer does not have: the greatest and the least of a tuple of ints, a tuple once or none at all, repr of data with empty dicts within. -/
namespace TP
open PySem L2 PySem.Spec PyProof.Rows
section
variable {X : Cx}
theorem dpAll_ints {K : PySem.W.Frag} {H : Hp} : ∀ ns : List Int, DpAll K H (ns.map V.int) (ns.map PyData.int)
  | [] => .nil
  | n :: r => .cons (.int n) (dpAll_ints r)
theorem depth_ints : ∀ ns : List Int, PyData.depthAll (ns.map PyData.int) ≤ 1
  | [] => by simp [PyData.depthAll]
  | n :: r => by
    have := depth_ints r
    simp only [List.map_cons, PyData.depthAll, PyData.depth]
    omega
theorem alike_ints (ns : List Int) : PySem.W.AlikeAll (ns.map PyData.int) := by
  refine ⟨fun x hx y hy => ?_, fun x hx => ?_⟩
  · obtain ⟨i, _, rfl⟩ := List.mem_map.mp hx
    obtain ⟨j, _, rfl⟩ := List.mem_map.mp hy
    rfl
  · obtain ⟨i, _, rfl⟩ := List.mem_map.mp hx
    exact fun z => by cases z
def rMaxT (K : PySem.W.Frag) (f : Int → Int → Int) : List V → Hp → VK → Prop := fun vs H Q => ∃ (a : Addr) (n : Int) (ns : List Int), vs = [V.ref a] ∧ SqT K H a ((n :: ns).map V.int) ∧ Q (.int (ns.foldl f n)) H
theorem cr_maxT (hc : X.calm = true) (hu : X.A.units + 200 < cLine) : CallR X (.builtin "max") (rMaxT X.K max) := by
  intro pins s σ H vs us Q I r h
  obtain ⟨a, n, ns, rfl, hs, q⟩ := h
  obtain ⟨its, rv, ho, _⟩ := I.tuple hs
  obtain ⟨as, hr⟩ := Dp.readsAll I ((n :: ns).map PyData.int) _ its (dpAll_ints _) rv
  rw [Vals.ref1 r]
  have hd := depth_ints (n :: ns)
  refine PySem.W.max_tuple_data (x := .int n) (xs := ns.map PyData.int) (I.ok.hd hc) ho (by simpa using hr) (alike_ints (n :: ns)) (by simp only [List.map_cons] at hd; omega) fun i v h' tk bs hv rd hk => ?_
  rw [PySem.W.maxD_ints] at rd
  cases rd with
  | int i t => exact ⟨.int _, H, I.kept hk, ⟨_, rfl⟩, q⟩
theorem cr_minT (hc : X.calm = true) (hu : X.A.units + 200 < cLine) : CallR X (.builtin "min") (rMaxT X.K min) := by
  intro pins s σ H vs us Q I r h
  obtain ⟨a, n, ns, rfl, hs, q⟩ := h
  obtain ⟨its, rv, ho, _⟩ := I.tuple hs
  obtain ⟨as, hr⟩ := Dp.readsAll I ((n :: ns).map PyData.int) _ its (dpAll_ints _) rv
  rw [Vals.ref1 r]
  have hd := depth_ints (n :: ns)
  refine PySem.W.min_tuple_data (x := .int n) (xs := ns.map PyData.int) (I.ok.hd hc) ho (by simpa using hr) (alike_ints (n :: ns)) (by simp only [List.map_cons] at hd; omega) fun i v h' tk bs hv rd hk => ?_
  rw [PySem.W.minD_ints] at rd
  cases rd with
  | int i t => exact ⟨.int _, H, I.kept hk, ⟨_, rfl⟩, q⟩

end
/-! ### repr of data with empty dicts within -/
section
variable {P : Program} {w : World} {h : Heap}
/-- a value reads as that data, and its text is made -/
def Sh (P : Program) (w : World) (h : Heap) (u : Value) (d : D) : Prop := ∃ as bs, Reads h u d as ∧ ReadAtMost h d.depth bs ∧ ReprK P w bs h d.depth u d.shown
def ShL (P : Program) (w : World) (h : Heap) (us : List Value) (ds : List D) : Prop := ∃ as bs, ReadsAll h us ds as ∧ ReadAtMost h (PyData.depthAll ds) bs ∧ ReprAllK P w bs h (PyData.depthAll ds) us (PyData.shownAll ds)
theorem noReads (n : Nat) : ReadAtMost h n [] := fun b hb => by cases hb
theorem ShL.cons_ {u : Value} {us : List Value} {d : D} {ds : List D} (a : Sh P w h u d) (b : ShL P w h us ds) : ShL P w h (u :: us) (d :: ds) := by
  obtain ⟨as1, bs1, r1, m1, k1⟩ := a
  obtain ⟨as2, bs2, r2, m2, k2⟩ := b
  have l1 : d.depth ≤ PyData.depthAll (d :: ds) := by simp only [PyData.depthAll]; omega
  have l2 : PyData.depthAll ds ≤ PyData.depthAll (d :: ds) := by simp only [PyData.depthAll]; omega
  refine ⟨as1 ++ as2, bs1 ++ bs2, .cons r1 r2, (m1.mono l1).append (m2.mono l2), ?_⟩
  have q := ReprAllK.cons ((k1.more (as' := bs1 ++ bs2) fun b hb => List.mem_append_left _ hb).level_le l1) (k2.more_le (as' := bs1 ++ bs2) (fun b hb => List.mem_append_right _ hb) l2)
  simpa only [PyData.shownAll] using q
/-- parts of a list, of a tuple: what is needed of the whole -/
theorem ShL.in_ {a : Addr} {us : List Value} {ds : List D} {d : D} {as : List Addr} (r : Reads h (.ref a) d as) (e : d.depth = PyData.depthAll ds + 1) {bs : List Addr} (m : ReadAtMost h (PyData.depthAll ds) bs) : a ∉ bs ∧ ReadAtMost h d.depth (a :: bs) :=
  ⟨not_mem_of_deeper r (by omega) m, ReadAtMost.cons r (by omega) m⟩
end
section
variable {X : Cx} {pins : List (Addr × Obj)} {σ : L2.St} {F H : Hp} {s : Shared}
theorem dic_at (I : Inv X pins σ H s) {a : Addr} (e : H a = some (.dK [])) : (a == sysModules) = false ∧ ∃ o n, s.heap.get? a = some o ∧ o.cls = .type "dict" ∧ o.data = .dict #[] n := by
  obtain ⟨_, hs, vs, hv, o, es, ep, h1, h2, h3, _, h5, _⟩ := I.hok a _ e
  have ev : vs = [] := by cases hv; rfl
  subst ev
  have ee : es.toList = [] := by
    generalize es.toList = l at h5
    cases h5
    rfl
  have ee2 : es = #[] := Array.toList_inj.mp ee
  subst ee2
  exact ⟨hs, o, ep, h1, h2.1, h3⟩
mutual
theorem dv_sh (I : Inv X pins σ H s) (sf : Same F H) : ∀ (d : D) (v : V) (u : Value), Dv X.K F v d → RelV v u → d.showable = true → d.shown.length ≤ sizeLine → Sh X.prog X.w s.heap u d
  | .none, _, _, h, r, _, _ => by
    cases h
    cases r
    exact ⟨_, [], .none, noReads _, by simp only [PyData.shown]; exact .of_is ReprIs.none _ _ _⟩
  | .bool b, _, _, h, r, _, _ => by
    cases h
    cases r
    exact ⟨_, [], .bool b, noReads _, by simp only [PyData.shown]; exact .of_is (ReprIs.bool b) _ _ _⟩
  | .int i, _, _, h, r, c, _ => by
    cases h
    obtain ⟨t, rfl⟩ := r
    exact ⟨_, [], .int i t, noReads _, by simp only [PyData.shown]; exact .of_is (ReprIs.int t (by simpa [PyData.showable] using c)) _ _ _⟩
  | .str x, _, _, h, r, _, z => by
    cases h
    obtain ⟨t, rfl⟩ := r
    exact ⟨_, [], .str x t, noReads _, by simp only [PyData.shown]; exact .of_is (ReprIs.str x t (by simpa only [PyData.shown] using z)) _ _ _⟩
  | .list ds, _, _, h, r, c, z => by
    have z' : (listText (PyData.shownAll ds)).length ≤ sizeLine := by simpa only [PyData.shown] using z
    have c' : PyData.showableAll ds = true := by simpa only [PyData.showable] using c
    cases h with
    | lst e dv =>
      cases r
      obtain ⟨its, rv, ⟨o, n, ho, hc, _, hd⟩, _⟩ := I.list (SqL.of (sf _ _ e))
      obtain ⟨as, bs, ra, m, k⟩ := dvL_sh I sf ds _ its dv rv c' fun t ht => Nat.le_trans (listText_mem_le ht) z'
      have rr := Reads.list ho hc hd ra
      obtain ⟨na, mm⟩ := ShL.in_ (us := its) rr (by simp only [PyData.depth]) m
      refine ⟨_, _, rr, mm, ?_⟩
      cases its with
      | nil =>
        cases ra
        simp only [PyData.shown, PyData.shownAll, listText_nil]
        exact ReprK.listEmpty ho hc hd
      | cons x l =>
        have q := ReprK.list ho hc hd na (by simpa using k.length_eq) fun i y hy => k.item i y (by simpa using hy)
        simpa only [PyData.shown, PyData.depth] using q
  | .tuple ds, _, _, h, r, c, z => by
    have z' : (tupleText (PyData.shownAll ds)).length ≤ sizeLine := by simpa only [PyData.shown] using z
    have c' : PyData.showableAll ds = true := by simpa only [PyData.showable] using c
    cases h with
    | tup e dv =>
      cases r
      obtain ⟨its, rv, ⟨o, ho, hc, n, hd⟩, _⟩ := I.tuple (same_tup sf e)
      obtain ⟨as, bs, ra, m, k⟩ := dvL_sh I sf ds _ its dv rv c' fun t ht => Nat.le_trans (tupleText_mem_le ht) z'
      have rr := Reads.tuple ho hc hd ra
      obtain ⟨na, mm⟩ := ShL.in_ (us := its) rr (by simp only [PyData.depth]) m
      refine ⟨_, _, rr, mm, ?_⟩
      have q := ReprK.tuple ho hc hd na k
      simpa only [PyData.shown, PyData.depth] using q
  | .dict kvs, _, _, h, r, _, _ => by
    cases h with
    | dic e =>
      cases r
      obtain ⟨hs, o, n, h1, h2, h3⟩ := dic_at I (sf _ _ e)
      have rr : Reads s.heap (.ref _) (.dict []) _ := .dict (kvs := []) h1 h2 h3 .nil .nil
      refine ⟨_, [_], rr, ReadAtMost.cons rr (n := 0) (Nat.zero_le _) (noReads _), ?_⟩
      have q := ReprK.dict (prog := X.prog) (w := X.w) (d := 0) h1 h2 h3 hs (by simp) (as := []) (ps := []) .nil
      simpa only [PyData.shown, PyData.depth, PyData.shownKv, PyData.depthKv] using q
theorem dvL_sh (I : Inv X pins σ H s) (sf : Same F H) : ∀ (ds : List D) (vs : List V) (us : List Value), DvL X.K F vs ds → Vals vs us → PyData.showableAll ds = true → (∀ t ∈ PyData.shownAll ds, t.length ≤ sizeLine) → ShL X.prog X.w s.heap us ds
  | [], _, _, h, r, _, _ => by
    cases h
    cases r
    exact ⟨_, [], .nil, noReads _, by simp only [PyData.shownAll]; exact .nil⟩
  | d :: ds, _, _, h, r, c, z => by
    have c' : d.showable = true ∧ PyData.showableAll ds = true := by simpa [PyData.showableAll] using c
    have z' : ∀ t ∈ d.shown :: PyData.shownAll ds, t.length ≤ sizeLine := by simpa only [PyData.shownAll] using z
    cases h with
    | cons a b =>
      cases r with
      | cons r1 r2 => exact ShL.cons_ (dv_sh I sf d _ _ a r1 c'.1 (z' _ (by simp))) (dvL_sh I sf ds _ _ b r2 c'.2 fun t ht => z' t (List.mem_cons_of_mem _ ht))
end
/-- the text of an object by its parts -/
theorem dv_shows (I : Inv X pins σ H s) (sf : Same F H) {a : Addr} {u : Value} {d : D} (h : Dv X.K F (.ref a) d) (r : RelV (.ref a) u) (c : d.showable = true) (z : d.shown.length ≤ sizeLine) : ∃ T idr, ShowsBy X.prog X.w s.heap a d T idr ∧ u = .ref a := by
  cases r
  cases h with
  | @lst _ vs ds e dv =>
    have z' : (listText (PyData.shownAll ds)).length ≤ sizeLine := by simpa only [PyData.shown] using z
    obtain ⟨its, rv, ⟨o, n, ho, hc, _, hd⟩, _⟩ := I.list (SqL.of (sf _ _ e))
    obtain ⟨as, bs, ra, m, k⟩ := dvL_sh I sf ds _ its dv rv (by simpa only [PyData.showable] using c) fun t ht => Nat.le_trans (listText_mem_le ht) z'
    obtain ⟨na, _⟩ := ShL.in_ (us := its) (Reads.list ho hc hd ra) (by simp only [PyData.depth]) m
    refine ⟨"list", "list.__repr__", ⟨PySem.F.slot_list_repr.toG, PySem.F.slot_list_str, PySem.F.slot_list_format, fun s' k0 => ⟨o, k0 _ _ ho, hc⟩, fun A E s' Q hg hu k0 q => ?_⟩, rfl⟩
    have hu' : A.units + (PyData.depthAll ds + 1) < cLine := by simpa only [PyData.depth] using hu
    cases its with
    | nil =>
      cases ra
      refine call_list_repr_empty ⟨o, k0 _ _ ho, hc⟩ (k0 _ _ ho) hd ?_
      have q' := q s'.heap s'.toks (s'.toks + 1) fun _ _ e => e
      simpa only [PyData.shown, PyData.shownAll, listText_nil] using q'
    | cons x l =>
      refine call_list_reprK ho hc hd na (by simpa using k.length_eq) (fun i y hy => k.item i y (by simpa using hy)) hg (fun b _ => Clear.nil b) hu' k0 (fun h' u tk kk => ?_) z'
      simpa only [PyData.shown] using q h' u tk kk
  | @tup _ vs ds e dv =>
    have z' : (tupleText (PyData.shownAll ds)).length ≤ sizeLine := by simpa only [PyData.shown] using z
    obtain ⟨its, rv, ⟨o, ho, hc, n, hd⟩, _⟩ := I.tuple (same_tup sf e)
    obtain ⟨as, bs, ra, m, k⟩ := dvL_sh I sf ds _ its dv rv (by simpa only [PyData.showable] using c) fun t ht => Nat.le_trans (tupleText_mem_le ht) z'
    obtain ⟨na, _⟩ := ShL.in_ (us := its) (Reads.tuple ho hc hd ra) (by simp only [PyData.depth]) m
    refine ⟨"tuple", "tuple.__repr__", ⟨PySem.F.slot_tuple_repr, PySem.F.slot_tuple_str, PySem.F.slot_tuple_format, fun s' k0 => ⟨o, k0 _ _ ho, hc⟩, fun A E s' Q hg hu k0 q => ?_⟩, rfl⟩
    have hu' : A.units + (PyData.depthAll ds + 1) < cLine := by simpa only [PyData.depth] using hu
    refine call_tuple_reprK ho hc hd na k hg (fun b _ => Clear.nil b) hu' k0 (fun h' u tk kk => ?_) z'
    simpa only [PyData.shown] using q h' u tk kk
  | dic e =>
    obtain ⟨hs, o, n, h1, h2, h3⟩ := dic_at I (sf _ _ e)
    refine ⟨"dict", "dict.__repr__", ⟨PySem.F.slot_dict_repr, PySem.F.slot_dict_str, PySem.F.slot_dict_format, fun s' k0 => ⟨o, k0 _ _ h1, h2⟩, fun A E s' Q hg hu k0 q => ?_⟩, rfl⟩
    refine call_dict_reprK (d := 0) (as := []) (ps := []) h1 h2 h3 hs (by simp) .nil hg (fun b _ => Clear.nil b) (by simpa only [PyData.depth, PyData.depthKv] using hu) k0 (fun h' u tk kk => ?_) (by decide +kernel)
    simpa only [PyData.shown, PyData.shownKv] using q h' u tk kk
theorem cr_reprD {Y : Fx} (hK : X.K = Y.K) (hg : X.A.guards = some []) (hu : X.A.units + 200 < cLine) : CallR X (.builtin "repr") (fun vs H Q => ∃ F v d, vs = [v] ∧ Same F H ∧ Dv Y.K F v d ∧ d.showable = true ∧ d.shown.length ≤ sizeLine ∧ d.depth ≤ 64 ∧ Q (.str d.shown) H) := by
  intro pins s σ H vs us Q I r h
  obtain ⟨F, v, d, rfl, sf, dv, h1, h2, h3, q⟩ := h
  obtain ⟨u, rfl, ru⟩ := vals1 r
  rw [← hK] at dv
  cases v with
  | ref a =>
    obtain ⟨T, idr, S, rfl⟩ := dv_shows I sf dv ru h1 h2
    exact call_repr_slot (by omega) (S.typeIs s fun _ _ e => e) S.slotRepr (S.call X.A.in1 _ s _ hg (by show X.A.units + 1 + d.depth < cLine; omega) (fun _ _ e => e) fun h' t tk k => ⟨_, _, rfl, ⟨.str d.shown, H, I.kept (t' := tk) k, ⟨_, rfl⟩, q⟩⟩)
  | _ =>
    refine cr_repr hg hu pins s σ H _ _ Q I r ⟨_, d, rfl, ?_, h1, h2, h3, q⟩
    cases dv <;> first | exact .non | exact .bl _ | exact .int _ | exact .str _
end
end TP
end

section
set_option linter.all false
set_option maxRecDepth 100000
/-! Expressions, construct by construct. -/
namespace TP
open PySem L2 PySem.Spec PyProof.Rows
section
variable {Y : Fx} {E : XK} {X : Cx} {e a b c : Expr} {es : List Expr} {pos : Pos}
/-- one operand, then a step that hands on a value -/
theorem one {f : S → M (Opr × S)} {α : Type} {h : Opr × S → M α} {P : α → Prop} {R : Nat → D → Prop} {C : Ct} {F H : Hp} {dk : List (Addr × Addr)} {σ : LS} {s : S} {Z : V → Hp → Prop}
    (hY : C.toFx = Y) (hE : C.E = E) (r : Rel C F H dk σ s) (hR : ∀ c x, R c x → RPost C c x) (q : ((f s).bind h).All P R)
    (k : ∀ F1 H1 d1 o1 s1 x, Rel C F1 H1 d1 σ s1 → OR C F1 σ x o1 → (h (o1, s1)).All P R → Z x H1) : tO Y E f σ H Z :=
  ⟨C, F, dk, s, hY, hE, r, ((M.all_bind _).mp q).mono (fun p hp F1 H1 d1 x r1 o1 => k F1 H1 d1 p.1 p.2 x r1 o1 hp) hR⟩
theorem all_bind_opt {α β γ : Type} {o : Option α} {g : α → Option β} {k : β → M γ} {P : γ → Prop} {R : Nat → D → Prop} (h : ((M.ofOpt (o.bind g)).bind k).All P R) : ∃ x y, o = some x ∧ g x = some y ∧ (k y).All P R := by
  obtain ⟨y, e, hy⟩ := M.all_ofOpt ((M.all_bind _).mp h)
  cases o with
  | none => cases e
  | some x => exact ⟨x, y, rfl, e, hy⟩
theorem bind_opt {α β : Type} {o : Option α} {g : α → Option β} {y : β} (h : o.bind g = some y) : ∃ x, o = some x ∧ g x = some y := by
  cases o with
  | none => cases h
  | some x => exact ⟨x, rfl, h⟩
theorem fK {C : Ct} (hY : C.toFx = Y) (hK : X.K = Y.K) : C.K = X.K := by rw [hK, ← hY]
/-! ### constants, names -/
theorem so_const {v : V} {x : D} (h : PE X e (tC v)) (hd : ∀ (K : Frag) (F : Hp), Dv K F v x) : PE X e (tV Y E fun s => .ret (.d x, s)) :=
  pe_imp h fun σ H Q ⟨C, F, dk, s, hY, hE, r, q⟩ => q F H dk v (r.with_d (hd _ _))
theorem so_var {i : Nat} (h : PE X e (tVar i)) : PE X e (tV Y E (rdVar i)) := by
  refine pe_imp h fun σ H Q ⟨C, F, dk, s, hY, hE, r, q⟩ => ?_
  unfold rdVar at q
  cases eg : gt s i with
  | none =>
    rw [eg] at q
    exact q.elim
  | some x =>
    rw [eg] at q
    cases x with
    | d x =>
      obtain ⟨v, fp, ev, z⟩ := r.at eg
      cases z with
      | d z => exact ⟨v, ev, q F H dk v (r.with_d z)⟩
    | own xs =>
      obtain ⟨v, F', ev, sf, dv, r'⟩ := r.read eg (y := .list xs) rfl
      exact ⟨v, ev, q F' H dk v (r'.with_d dv)⟩
    | deck =>
      obtain ⟨v, fp, ev, z⟩ := r.at eg
      cases z with
      | deck z => exact ⟨_, ev, q F H dk _ (r.with_sr0 (.deck z))⟩
    | scr ns =>
      obtain ⟨v, fp, ev, z⟩ := r.at eg
      cases z with
      | scr z => exact ⟨_, ev, q F H dk _ (r.with_sr0 (.scr z))⟩
/-! ### operators -/
theorem so_bin (hK : X.K = Y.K) {o : Op} {f g : S → M (Opr × S)} (ha : PE X a (tO Y E f)) (hb : PE X b (tO Y E g)) :
    PE X (.BinOp a (opOf o) b pos) (tV Y E fun s => (f s).bind fun r => (g r.2).bind fun q => (M.ofOpt ((res q.2 r.1).bind fun x => (res q.2 q.1).bind fun y => binD o x y)).bind fun v => .ret (v, q.2)) := by
  refine pe_imp (pe_op (opD hK o) ha hb) fun σ H Q ⟨C, F, dk, s, hY, hE, r, q⟩ => ?_
  refine two (h := fun o q => (M.ofOpt ((res q.2 o).bind fun x => (res q.2 q.1).bind fun y => binD _ x y)).bind fun v => .ret (v, q.2)) hY hE r (fun _ _ z => z) q fun F2 H2 d2 o1 o2 s2 x y r2 h1 h2 hq => ?_
  obtain ⟨dx, v, e1, e2, hv⟩ := all_bind_opt hq
  obtain ⟨dy, e3, e4⟩ := bind_opt e2
  exact ⟨C, F2, d2, σ, s2, dx, dy, v, hY, r2, h1.rv r2 e1, h2.rv r2 e3, e4, fun F' H' dk' z r3 => hv F' H' dk' z r3⟩
theorem so_neg {f : S → M (Opr × S)} (ha : PE X a (tO Y E f)) :
    PE X (.UnaryOp .USub a pos) (tV Y E fun s => (f s).bind fun r => match res r.2 r.1 with
      | some (.int i) => .ret (.d (.int (-i)), r.2)
      | _ => .stuck) := by
  refine pe_imp (pe_un un_neg ha) fun σ H Q ⟨C, F, dk, s, hY, hE, r, q⟩ => ?_
  refine one hY hE r (fun _ _ z => z) q fun F1 H1 d1 o1 s1 x r1 h1 hq => ?_
  cases e : res s1 o1 with
  | none =>
    dsimp only at hq
    rw [e] at hq
    exact hq.elim
  | some y =>
    dsimp only at hq
    rw [e] at hq
    cases y with
    | int i =>
      have ex := (h1.rv r1 e).int_
      exact ⟨i, ex, hq F1 H1 d1 _ (r1.with_d (.int (-i)))⟩
    | _ => exact hq.elim
/-! ### tests -/
theorem so_tst {f : S → M (Opr × S)} (hK : X.K = Y.K) (ha : PE X a (tO Y E f)) (he : ∀ whole, isTrue a X.env whole = (do let v ← whole; standAt a.pos; holding [v] (truthy v))) : PT X a (tBo Y E fun s => tst (f s)) := by
  refine pt_imp (pt_truth ha he) fun σ H Q ⟨C, F, dk, s, hY, hE, r, q⟩ => ?_
  refine one hY hE r (fun _ _ z => z) q fun F1 H1 d1 o1 s1 x r1 h1 hq => ?_
  obtain ⟨dx, t, e1, e2, ht⟩ := all_bind_opt hq
  refine ⟨t, ?_, ht F1 H1 d1 r1⟩
  rw [← fK hY hK]
  exact truV r1.w.fh (h1.rv r1 e1) e2
theorem so_notV {f : S → M (Opr × S)} (hK : X.K = Y.K) (ha : PE X a (tO Y E f)) : PE X (.UnaryOp .Not a pos) (tV Y E fun s => (tst (f s)).bind fun r => .ret (.d (.bool (!r.1)), r.2)) := by
  refine pe_imp (pe_notT ha) fun σ H Q ⟨C, F, dk, s, hY, hE, r, q⟩ => ?_
  have q' : ((tst (f s)).bind fun r => .ret (.d (.bool (!r.1)), r.2)).All (QV C σ Q) (RPost C) := q
  unfold tst at q'
  rw [M.bind_assoc] at q'
  refine one hY hE r (fun _ _ z => z) q' fun F1 H1 d1 o1 s1 x r1 h1 hq => ?_
  rw [M.bind_assoc] at hq
  obtain ⟨dx, t, e1, e2, ht⟩ := all_bind_opt hq
  refine ⟨t, ?_, ht F1 H1 d1 _ (r1.with_d (.bl _))⟩
  rw [← fK hY hK]
  exact truV r1.w.fh (h1.rv r1 e1) e2
theorem so_notT {f : S → M (Bool × S)} (ha : PT X a (tBo Y E f)) : PT X (.UnaryOp .Not a pos) (tBo Y E fun s => (f s).bind fun r => .ret (!r.1, r.2)) := by
  refine pt_imp (pt_not ha) fun σ H Q ⟨C, F, dk, s, hY, hE, r, q⟩ => ?_
  exact ⟨C, F, dk, s, hY, hE, r, ((M.all_bind _).mp q).mono (fun p hp F1 H1 d1 r1 => hp F1 H1 d1 r1) fun _ _ z => z⟩
/-- one operand of data given away -/
theorem oneF {f : S → M (D × S)} {α : Type} {h : D × S → M α} {P : α → Prop} {R : Nat → D → Prop} {C : Ct} {F H : Hp} {dk : List (Addr × Addr)} {σ : LS} {s : S} {Z : V → Hp → Prop}
    (hY : C.toFx = Y) (hE : C.E = E) (r : Rel C F H dk σ s) (hR : ∀ c x, R c x → RPost C c x) (q : ((f s).bind h).All P R)
    (k : ∀ F1 H1 d1 y s1 x, Rel C F1 H1 d1 σ s1 → Dv C.K F1 x y → (h (y, s1)).All P R → Z x H1) : tF Y E f σ H Z :=
  ⟨C, F, dk, s, hY, hE, r, ((M.all_bind _).mp q).mono (fun p hp F1 H1 d1 x r1 o1 => k F1 H1 d1 p.1 p.2 x r1 o1 hp) hR⟩
theorem so_and {f g : S → M (Vl × S)} (hK : X.K = Y.K) {rest : List Expr} (ha : PE X a (tV Y E f)) (hb : PE X (.BoolOp .And (b :: rest) pos) (tV Y E g)) :
    PE X (.BoolOp .And (a :: b :: rest) pos) (tV Y E fun s => (fz (f s)).bind fun r => (M.ofOpt (truth r.1)).bind fun t => match t with
      | true => g r.2
      | false => .ret (.d r.1, r.2)) := by
  refine pe_imp (pe_andT (so_fz ha) hb) fun σ H Q ⟨C, F, dk, s, hY, hE, r, q⟩ => ?_
  refine oneF hY hE r (fun _ _ z => z) q fun F1 H1 d1 y s1 x r1 h1 hq => ?_
  obtain ⟨t, e2, hq⟩ := M.all_ofOpt ((M.all_bind _).mp hq)
  refine ⟨t, ?_, ?_⟩
  · rw [← fK hY hK]
    exact truV r1.w.fh (.of r1.w.fh h1) e2
  · cases t with
    | true =>
      rw [if_pos rfl]
      exact ⟨C, F1, d1, s1, hY, hE, r1, hq⟩
    | false =>
      rw [if_neg Bool.false_ne_true]
      exact hq F1 H1 d1 x (r1.with_d h1)
theorem so_or {f g : S → M (Vl × S)} (hK : X.K = Y.K) {rest : List Expr} (ha : PE X a (tV Y E f)) (hb : PE X (.BoolOp .Or (b :: rest) pos) (tV Y E g)) :
    PE X (.BoolOp .Or (a :: b :: rest) pos) (tV Y E fun s => (fz (f s)).bind fun r => (M.ofOpt (truth r.1)).bind fun t => match t with
      | true => .ret (.d r.1, r.2)
      | false => g r.2) := by
  refine pe_imp (pe_orT (so_fz ha) hb) fun σ H Q ⟨C, F, dk, s, hY, hE, r, q⟩ => ?_
  refine oneF hY hE r (fun _ _ z => z) q fun F1 H1 d1 y s1 x r1 h1 hq => ?_
  obtain ⟨t, e2, hq⟩ := M.all_ofOpt ((M.all_bind _).mp hq)
  refine ⟨t, ?_, ?_⟩
  · rw [← fK hY hK]
    exact truV r1.w.fh (.of r1.w.fh h1) e2
  · cases t with
    | true =>
      rw [if_pos rfl]
      exact hq F1 H1 d1 x (r1.with_d h1)
    | false =>
      rw [if_neg Bool.false_ne_true]
      exact ⟨C, F1, d1, s1, hY, hE, r1, hq⟩
theorem tst_fz {f : S → M (Vl × S)} {s : S} : tst (oper none f s) = (fz (f s)).bind fun r => (M.ofOpt (truth r.1)).bind fun b => .ret (b, r.2) := by
  show (((fz (f s)).bind fun r => M.ret (Opr.dt r.1, r.2)).bind fun r => (M.ofOpt ((res r.2 r.1).bind truth)).bind fun b => .ret (b, r.2)) = _
  rw [M.bind_assoc]
  rfl
theorem fz_ret {x : D} {s : S} : fz (.ret (.d x, s)) = .ret (x, s) := rfl
theorem bind_congr {α β : Type} {m : M α} {f g : α → M β} (h : ∀ a, f a = g a) : m.bind f = m.bind g := by rw [show f = g from funext h]
theorem fz_bind {α : Type} {m : M α} {g : α → M (Vl × S)} : fz (m.bind g) = m.bind fun a => fz (g a) := M.bind_assoc ..
theorem tst_and {f g : S → M (Vl × S)} {s : S} : tst (oper none (fun s => (fz (f s)).bind fun r => (M.ofOpt (truth r.1)).bind fun t => match t with
      | true => g r.2
      | false => .ret (.d r.1, r.2)) s) = (tst (oper none f s)).bind fun r => match r.1 with
        | true => tst (oper none g r.2)
        | false => .ret (false, r.2) := by
  rw [tst_fz, tst_fz, fz_bind, M.bind_assoc, M.bind_assoc]
  refine bind_congr fun r => ?_
  rw [fz_bind, M.bind_assoc, M.bind_assoc]
  cases e : truth r.1 with
  | none => rfl
  | some t =>
    rw [M.ofOpt_some, M.bind_ret, M.bind_ret, M.bind_ret]
    cases t with
    | true => exact tst_fz.symm
    | false =>
      show (M.ret (r.1, r.2)).bind _ = _
      rw [M.bind_ret, e]
      rfl
theorem tst_or {f g : S → M (Vl × S)} {s : S} : tst (oper none (fun s => (fz (f s)).bind fun r => (M.ofOpt (truth r.1)).bind fun t => match t with
      | true => .ret (.d r.1, r.2)
      | false => g r.2) s) = (tst (oper none f s)).bind fun r => match r.1 with
        | true => .ret (true, r.2)
        | false => tst (oper none g r.2) := by
  rw [tst_fz, tst_fz, fz_bind, M.bind_assoc, M.bind_assoc]
  refine bind_congr fun r => ?_
  rw [fz_bind, M.bind_assoc, M.bind_assoc]
  cases e : truth r.1 with
  | none => rfl
  | some t =>
    rw [M.ofOpt_some, M.bind_ret, M.bind_ret, M.bind_ret]
    cases t with
    | false => exact tst_fz.symm
    | true =>
      show (M.ret (r.1, r.2)).bind _ = _
      rw [M.bind_ret, e]
      rfl
theorem tst_not {f : S → M (Bool × S)} {s : S} : tst (oper none (fun s => (f s).bind fun r => .ret (.d (.bool (!r.1)), r.2)) s) = (f s).bind fun r => .ret (!r.1, r.2) := by
  rw [tst_fz, fz_bind, M.bind_assoc]
  rfl
theorem tst_ife {f : S → M (Bool × S)} {g h : S → M (Vl × S)} {s : S} : tst (oper none (fun s => (f s).bind fun r => match r.1 with
      | true => g r.2
      | false => h r.2) s) = (f s).bind fun r => match r.1 with
      | true => tst (oper none g r.2)
      | false => tst (oper none h r.2) := by
  rw [tst_fz, fz_bind, M.bind_assoc]
  refine bind_congr fun r => ?_
  obtain ⟨t, s1⟩ := r
  cases t with
  | true => exact tst_fz.symm
  | false => exact tst_fz.symm
/-- a test, then another one -/
theorem so_thenT {f g : S → M (Bool × S)} {C : Ct} {F H : Hp} {dk : List (Addr × Addr)} {σ : LS} {s : S} {P : Bool × S → Prop} {k : Bool × S → M (Bool × S)} {Z : Bool → Hp → Prop}
    (hY : C.toFx = Y) (hE : C.E = E) (r : Rel C F H dk σ s) (q : ((f s).bind k).All P (RPost C)) (z : ∀ b F1 H1 d1 s1, Rel C F1 H1 d1 σ s1 → (k (b, s1)).All P (RPost C) → Z b H1) : tBo Y E f σ H Z :=
  ⟨C, F, dk, s, hY, hE, r, ((M.all_bind _).mp q).mono (fun p hp F1 H1 d1 r1 => z p.1 F1 H1 d1 p.2 r1 hp) fun _ _ z => z⟩
theorem so_andT {f g : S → M (Bool × S)} {rest : List Expr} (ha : PT X a (tBo Y E f)) (hb : PW X (.BoolOp .And (b :: rest) pos) (tBo Y E g)) :
    PW X (.BoolOp .And (a :: b :: rest) pos) (tBo Y E fun s => (f s).bind fun r => match r.1 with
        | true => g r.2
        | false => .ret (false, r.2)) := by
  have h := pw_and ha hb
  refine ⟨fun wh pins s σ H Q I q => h.run wh pins s σ H Q I ?_⟩
  obtain ⟨C, F, dk, s, hY, hE, r, q⟩ := q
  refine so_thenT (g := g) hY hE r q fun b F1 H1 d1 s1 r1 hq => ?_
  cases b with
  | true => rw [if_pos rfl]; exact ⟨C, F1, d1, s1, hY, hE, r1, hq⟩
  | false => rw [if_neg Bool.false_ne_true]; exact hq F1 H1 d1 r1
theorem so_orT {f g : S → M (Bool × S)} {rest : List Expr} (ha : PT X a (tBo Y E f)) (hb : PW X (.BoolOp .Or (b :: rest) pos) (tBo Y E g)) :
    PW X (.BoolOp .Or (a :: b :: rest) pos) (tBo Y E fun s => (f s).bind fun r => match r.1 with
        | true => .ret (true, r.2)
        | false => g r.2) := by
  have h := pw_or ha hb
  refine ⟨fun wh pins s σ H Q I q => h.run wh pins s σ H Q I ?_⟩
  obtain ⟨C, F, dk, s, hY, hE, r, q⟩ := q
  refine so_thenT (g := g) hY hE r q fun b F1 H1 d1 s1 r1 hq => ?_
  cases b with
  | true => rw [if_pos rfl]; exact hq F1 H1 d1 r1
  | false => rw [if_neg Bool.false_ne_true]; exact ⟨C, F1, d1, s1, hY, hE, r1, hq⟩
/-! ### comparisons -/
theorem so_cmp (hK : X.K = Y.K) (hu : X.A.units + 64 < cLine) {o : Cm} {f g : S → M (Opr × S)} (ha : PE X a (tO Y E f)) (hb : PE X b (tO Y E g)) (hm : behindInMarks (cmOf o) b = false) :
    PE X (.Compare a [cmOf o] [b] pos) (tV Y E fun s => (f s).bind fun r => (g r.2).bind fun q => (M.ofOpt ((res q.2 r.1).bind fun x => (res q.2 q.1).bind fun y => cmpD o x y)).bind fun t => .ret (.d (.bool t), q.2)) := by
  refine pe_imp (pe_cmpR (cmD hK hu o) ha hb hm) fun σ H Q ⟨C, F, dk, s, hY, hE, r, q⟩ => ?_
  refine two (h := fun p q => (M.ofOpt ((res q.2 p).bind fun x => (res q.2 q.1).bind fun y => cmpD o x y)).bind fun t => .ret (Vl.d (.bool t), q.2)) hY hE r (fun _ _ z => z) q fun F2 H2 d2 o1 o2 s2 x y r2 h1 h2 hq => ?_
  obtain ⟨dx, t, e1, e2, hv⟩ := all_bind_opt hq
  obtain ⟨dy, e3, e4⟩ := bind_opt e2
  exact ⟨C, F2, dx, dy, t, hY, r2.w.fh, h1.rv r2 e1, h2.rv r2 e3, e4, hv F2 H2 d2 _ (r2.with_d (.bl t))⟩
theorem so_cmpT (hK : X.K = Y.K) (hu : X.A.units + 64 < cLine) {o : Cm} {f g : S → M (Opr × S)} (ha : PE X a (tO Y E f)) (hb : PE X b (tO Y E g)) (hm : behindInMarks (cmOf o) b = false) :
    PT X (.Compare a [cmOf o] [b] pos) (tBo Y E fun s => (f s).bind fun r => (g r.2).bind fun q => (M.ofOpt ((res q.2 r.1).bind fun x => (res q.2 q.1).bind fun y => cmpD o x y)).bind fun t => .ret (t, q.2)) := by
  refine pt_imp (pt_cmpR (cmD hK hu o) ha hb hm) fun σ H Q ⟨C, F, dk, s, hY, hE, r, q⟩ => ?_
  refine two (h := fun p q => (M.ofOpt ((res q.2 p).bind fun x => (res q.2 q.1).bind fun y => cmpD o x y)).bind fun t => .ret (t, q.2)) hY hE r (fun _ _ z => z) q fun F2 H2 d2 o1 o2 s2 x y r2 h1 h2 hq => ?_
  obtain ⟨dx, t, e1, e2, hv⟩ := all_bind_opt hq
  obtain ⟨dy, e3, e4⟩ := bind_opt e2
  exact ⟨C, F2, dx, dy, t, hY, r2.w.fh, h1.rv r2 e1, h2.rv r2 e3, e4, t, rfl, hv F2 H2 d2 r2⟩
theorem tst_cmp {o : Cm} {f g : S → M (Opr × S)} {s : S} : tst (oper none (fun s => (f s).bind fun r => (g r.2).bind fun q => (M.ofOpt ((res q.2 r.1).bind fun x => (res q.2 q.1).bind fun y => cmpD o x y)).bind fun t => .ret (.d (.bool t), q.2)) s) =
    (f s).bind fun r => (g r.2).bind fun q => (M.ofOpt ((res q.2 r.1).bind fun x => (res q.2 q.1).bind fun y => cmpD o x y)).bind fun t => .ret (t, q.2) := by
  rw [tst_fz, fz_bind, M.bind_assoc]
  refine bind_congr fun r => ?_
  rw [fz_bind, M.bind_assoc]
  refine bind_congr fun q => ?_
  rw [fz_bind, M.bind_assoc]
  rfl

/-- a <= b <= c, by its run -/
theorem chain_rd (hK : X.K = Y.K) {o u : Cm} {f g h : S → M (Opr × S)} {γ : Type} {k : Bool → S → M γ} {P : γ → Prop} {C : Ct} {F H : Hp} {dk : List (Addr × Addr)} {σ : LS} {s : S} {Z : VK}
    (hY : C.toFx = Y) (hE : C.E = E) (r : Rel C F H dk σ s)
    (q : ((f s).bind fun r => (g r.2).bind fun q => (M.ofOpt ((res q.2 r.1).bind fun x => (res q.2 q.1).bind fun y => cmpD o x y)).bind fun t => match t with
      | true => (h q.2).bind fun p => (M.ofOpt ((res p.2 q.1).bind fun y => (res p.2 p.1).bind fun z => cmpD u y z)).bind fun t => k t p.2
      | false => k false q.2).All P (RPost C))
    (z : ∀ t F1 H1 d1 s1, Rel C F1 H1 d1 σ s1 → (k t s1).All P (RPost C) → Z (.bl t) H1) :
    tChain (rC Y (cmpD o)) (rC Y (cmpD u)) (tO Y E f) (tO Y E g) (tO Y E h) σ H Z := by
  refine two (h := fun p q => (M.ofOpt ((res q.2 p).bind fun x => (res q.2 q.1).bind fun y => cmpD o x y)).bind fun t => match t with
      | true => (h q.2).bind fun p => (M.ofOpt ((res p.2 q.1).bind fun y => (res p.2 p.1).bind fun z => cmpD u y z)).bind fun t => k t p.2
      | false => k false q.2) hY hE r (fun _ _ z => z) q fun F2 H2 d2 o1 o2 s2 x y r2 h1 h2 hq => ?_
  obtain ⟨dx, t, e1, e2, hv⟩ := all_bind_opt hq
  obtain ⟨dy, e3, e4⟩ := bind_opt e2
  refine ⟨C, F2, dx, dy, t, hY, r2.w.fh, h1.rv r2 e1, h2.rv r2 e3, e4, t, rfl, ?_⟩
  cases t with
  | false => rw [if_neg Bool.false_ne_true]; exact z false F2 H2 d2 s2 r2 hv
  | true =>
    rw [if_pos rfl]
    refine ⟨C.now F2 d2, F2, d2, s2, hY, hE, r2.now, ((M.all_bind _).mp hv).mono (fun p hp => ?_) fun c w hw => hw.now r2.w⟩
    intro F3 H3 d3 y3 r3 h3
    obtain ⟨dz, t2, e5, e6, hv2⟩ := all_bind_opt hp
    obtain ⟨dw, e7, e8⟩ := bind_opt e6
    have r3' := r3.unnow r2.w
    exact ⟨C, F3, dz, dw, t2, hY, r3.w.fh, (h2.mono r3.w.ff).rv r3' e5, h3.rv r3' e7, e8, z t2 F3 H3 d3 p.2 r3' hv2⟩
theorem so_chain (hK : X.K = Y.K) (hu : X.A.units + 64 < cLine) {o u : Cm} {f g h : S → M (Opr × S)} (ha : PE X a (tO Y E f)) (hb : PE X b (tO Y E g)) (hc : PE X c (tO Y E h)) (hm : lastMarks [cmOf o, cmOf u] [b, c] = false) :
    PE X (.Compare a [cmOf o, cmOf u] [b, c] pos) (tV Y E fun s => (f s).bind fun r => (g r.2).bind fun q => (M.ofOpt ((res q.2 r.1).bind fun x => (res q.2 q.1).bind fun y => cmpD o x y)).bind fun t => match t with
      | true => (h q.2).bind fun p => (M.ofOpt ((res p.2 q.1).bind fun y => (res p.2 p.1).bind fun z => cmpD u y z)).bind fun t => .ret (.d (.bool t), p.2)
      | false => .ret (.d (.bool false), q.2)) :=
  pe_imp (pe_chain (cmD hK hu o) (cmD hK hu u) ha hb hc hm) fun σ H Q ⟨C, F, dk, s, hY, hE, r, q⟩ =>
    chain_rd hK (k := fun t s => .ret (Vl.d (.bool t), s)) hY hE r q fun t F1 H1 d1 s1 r1 hq => hq F1 H1 d1 _ (r1.with_d (.bl t))
theorem so_chainT (hK : X.K = Y.K) (hu : X.A.units + 64 < cLine) {o u : Cm} {f g h : S → M (Opr × S)} (ha : PE X a (tO Y E f)) (hb : PE X b (tO Y E g)) (hc : PE X c (tO Y E h)) (hm : lastMarks [cmOf o, cmOf u] [b, c] = false) :
    PT X (.Compare a [cmOf o, cmOf u] [b, c] pos) (tBo Y E fun s => (f s).bind fun r => (g r.2).bind fun q => (M.ofOpt ((res q.2 r.1).bind fun x => (res q.2 q.1).bind fun y => cmpD o x y)).bind fun t => match t with
      | true => (h q.2).bind fun p => (M.ofOpt ((res p.2 q.1).bind fun y => (res p.2 p.1).bind fun z => cmpD u y z)).bind fun t => .ret (t, p.2)
      | false => .ret (false, q.2)) :=
  pt_imp (pt_chain (cmD hK hu o) (cmD hK hu u) ha hb hc hm) fun σ H Q ⟨C, F, dk, s, hY, hE, r, q⟩ =>
    chain_rd hK (k := fun t s => .ret (t, s)) hY hE r q fun t F1 H1 d1 s1 r1 hq => ⟨t, rfl, hq F1 H1 d1 r1⟩
theorem tst_chain {o u : Cm} {f g h : S → M (Opr × S)} {s : S} : tst (oper none (fun s => (f s).bind fun r => (g r.2).bind fun q => (M.ofOpt ((res q.2 r.1).bind fun x => (res q.2 q.1).bind fun y => cmpD o x y)).bind fun t => match t with
      | true => (h q.2).bind fun p => (M.ofOpt ((res p.2 q.1).bind fun y => (res p.2 p.1).bind fun z => cmpD u y z)).bind fun t => .ret (.d (.bool t), p.2)
      | false => .ret (.d (.bool false), q.2)) s) = (f s).bind fun r => (g r.2).bind fun q => (M.ofOpt ((res q.2 r.1).bind fun x => (res q.2 q.1).bind fun y => cmpD o x y)).bind fun t => match t with
      | true => (h q.2).bind fun p => (M.ofOpt ((res p.2 q.1).bind fun y => (res p.2 p.1).bind fun z => cmpD u y z)).bind fun t => .ret (t, p.2)
      | false => .ret (false, q.2) := by
  rw [tst_fz, fz_bind, M.bind_assoc]
  refine bind_congr fun r => ?_
  rw [fz_bind, M.bind_assoc]
  refine bind_congr fun q => ?_
  rw [fz_bind, M.bind_assoc]
  refine bind_congr fun t => ?_
  cases t with
  | false => rfl
  | true =>
    show (fz ((h q.2).bind _)).bind _ = _
    rw [fz_bind, M.bind_assoc]
    refine bind_congr fun p => ?_
    rw [fz_bind, M.bind_assoc]
    rfl
/-! ### a if c else b -/
theorem so_ife {f : S → M (Bool × S)} {g h : S → M (Vl × S)} (hc : PT X c (tBo Y E f)) (ha : PE X a (tV Y E g)) (hb : PE X b (tV Y E h)) :
    PE X (.IfExp c a b pos) (tV Y E fun s => (f s).bind fun r => match r.1 with
      | true => g r.2
      | false => h r.2) := by
  refine pe_imp (pe_ifExp hc ha hb) fun σ H Q ⟨C, F, dk, s, hY, hE, r, q⟩ => ?_
  refine ⟨C, F, dk, s, hY, hE, r, ((M.all_bind _).mp q).mono (fun p hp F1 H1 d1 r1 => ?_) fun _ _ z => z⟩
  obtain ⟨t, s1⟩ := p
  cases t with
  | true => show if true = true then _ else _; rw [if_pos rfl]; exact ⟨C, F1, d1, s1, hY, hE, r1, hp⟩
  | false => show if false = true then _ else _; rw [if_neg Bool.false_ne_true]; exact ⟨C, F1, d1, s1, hY, hE, r1, hp⟩
theorem so_ifeT {f g h : S → M (Bool × S)} (hc : PT X c (tBo Y E f)) (ha : PT X a (tBo Y E g)) (hb : PT X b (tBo Y E h)) :
    PT X (.IfExp c a b pos) (tBo Y E fun s => (f s).bind fun r => match r.1 with
      | true => g r.2
      | false => h r.2) := by
  refine ⟨fun pins s σ H Q I ⟨C, F, dk, t, hY, hE, r, q⟩ => isTrue_IfExp (thn (hc.run pins s σ H _ I (so_thenT (g := g) (Z := fun k H1 => if k then tBo Y E g σ H1 Q else tBo Y E h σ H1 Q) hY hE r q fun k F1 H1 d1 s1 r1 hq => ?_)) fun d s1 ⟨H1, I1, q1⟩ => ?_)⟩
  · cases k with
    | true => rw [if_pos rfl]; exact ⟨C, F1, d1, s1, hY, hE, r1, hq⟩
    | false => rw [if_neg Bool.false_ne_true]; exact ⟨C, F1, d1, s1, hY, hE, r1, hq⟩
  · cases d with
    | true =>
      rw [if_pos rfl] at q1 ⊢
      exact ha.run pins s1 σ H1 Q I1 q1
    | false =>
      rw [if_neg Bool.false_ne_true] at q1 ⊢
      exact hb.run pins s1 σ H1 Q I1 q1
/-! ### displays -/
theorem so_nilD : PA X [] (tDs Y E fun s => .ret ([], s)) := pa_imp pa_nil fun σ H Q ⟨C, F, dk, s, hY, hE, r, q⟩ => q F H dk [] r .nil
theorem so_consD {f : S → M (Vl × S)} {g : S → M (List D × S)} (ha : PE X a (tV Y E f)) (hb : PA X es (tDs Y E g)) (hs : starEach (a :: es) X.env = (false, eval a X.env) :: starEach es X.env) :
    PA X (a :: es) (tDs Y E fun s => (fz (f s)).bind fun r => (g r.2).bind fun q => .ret (r.1 :: q.1, q.2)) := by
  refine pa_imp (pa_cons (so_fz ha) hb hs) fun σ H Q ⟨C, F, dk, s, hY, hE, r, q⟩ => ?_
  refine oneF hY hE r (fun _ _ z => z) q fun F1 H1 d1 y s1 x r1 h1 hq => ?_
  refine ⟨C.now F1 d1, F1, d1, s1, hY, hE, r1.now, ((M.all_bind _).mp hq).mono (fun p hp => ?_) fun c w hw => hw.now r1.w⟩
  intro F2 H2 d2 vs r2 h2
  exact hp F2 H2 d2 (x :: vs) (r2.unnow r1.w) (.cons (Dv.mono r2.w.ff _ _ h1) h2)
theorem so_tup {f : S → M (List D × S)} {k : Nat} {n : Nat} (ha : PA X es (tDs Y E f)) (hn : ∀ s P R, (f s).All P R → (f s).All (fun r => P r ∧ r.1.length = n) R) (h2 : n ≤ 1000) :
    PE X (.Tuple es k pos) (tV Y E fun s => (f s).bind fun r => .ret (.d (.tuple r.1), r.2)) := by
  refine pe_imp (pe_tup ha) fun σ H Q ⟨C, F, dk, s, hY, hE, r, q⟩ => ?_
  refine ⟨C, F, dk, s, hY, hE, r, (hn _ _ _ ((M.all_bind _).mp q)).mono (fun p hp F1 H1 d1 vs r1 h1 => ?_) fun _ _ z => z⟩
  refine ⟨by rw [h1.length, hp.2, line_eq]; omega, fun a ha => hp.1 _ _ d1 _ (r1.newTup ha h1)⟩
theorem so_lst {f : S → M (List D × S)} {n : Nat} (ha : PA X es (tDs Y E f)) (hn : ∀ s P R, (f s).All P R → (f s).All (fun r => P r ∧ r.1.length = n) R) (h2 : n ≤ 1000) :
    PE X (.List es pos) (tV Y E fun s => (f s).bind fun r => .ret (.own r.1, r.2)) := by
  refine pe_imp (pe_lst ha) fun σ H Q ⟨C, F, dk, s, hY, hE, r, q⟩ => ?_
  refine ⟨C, F, dk, s, hY, hE, r, (hn _ _ _ ((M.all_bind _).mp q)).mono (fun p hp F1 H1 d1 vs r1 h1 => ?_) fun _ _ z => z⟩
  refine ⟨by rw [h1.length, hp.2, line_eq]; omega, fun a ha => hp.1 _ _ d1 _ (r1.newOwn ha h1)⟩
end
end TP
end

section
set_option linter.all false
set_option maxRecDepth 100000
/-! Subscripts, isinstance, built-in functions, the methods of a list of one's own. -/
namespace TP
open PySem L2 PySem.Spec PyProof.Rows
section
variable {C : Ct} {F H : Hp} {dk : List (Addr × Addr)} {σ : LS} {s : S}
/-! ### a list of one's own is changed -/
theorem SR.upd_ {a : Addr} {ob : HO} {o : Option V} {x : Option Vl} {f : List Addr} (z : SR C F H dk o x f) (h : a ∉ f) : SR C F (upd H a ob) dk o x f := by
  cases z with
  | no _ => exact .no _
  | d z => exact .d z
  | own q =>
    obtain ⟨o1, o2, o3, ws, o4, o5⟩ := q
    exact .own ⟨o1, o2, o3, ws, by rw [upd_ne fun e => h (by rw [← e]; simp)]; exact o4, o5⟩
  | deck z => exact .deck z
  | scr z => exact .scr z
theorem Rel.ownAt (r : Rel C F H dk σ s) {i : Nat} {xs : List D} (e : gt s i = some (.own xs)) :
    ∃ a vs, σ[i]? = some (some (.ref a)) ∧ H a = some (.lst vs) ∧ DvL C.K F vs xs ∧ ∀ vs' ys, DvL C.K F vs' ys → Rel C F (upd H a (.lst vs')) dk σ (s.set i (some (.own ys))) := by
  obtain ⟨fp, h1, h2⟩ := r.sl
  have h := h1 i
  rw [e] at h
  generalize hf : fp i = f at h
  generalize hv : σ.getD i none = ov at h
  cases h with
  | @own a _ ow =>
    obtain ⟨fa, ba, va, vs, ha, hd⟩ := ow
    have hi := List.getElem?_eq_some_iff.mp (getD_some e)
    obtain ⟨hi, _⟩ := hi
    have ev := getD_some hv
    refine ⟨a, vs, ev, ha, hd, fun vs' ys hd' => ⟨⟨fun b o q => ?_, fun b o q => ?_, r.w.ff, r.w.dd, r.w.da_upd va, r.w.df, r.w.fb⟩, by rw [List.length_set]; exact r.len, fp, fun j => ?_, h2⟩⟩
    · rw [upd_ne fun z => by rw [z, fa] at q; cases q]
      exact r.w.fh _ _ q
    · rw [upd_ne fun z => by rw [z, ba] at q; cases q]
      exact r.w.bh _ _ q
    · show SR C F (upd H a (.lst vs')) dk (σ.getD j none) ((s.set i (some (.own ys))).getD j none) (fp j)
      rw [getD_set]
      by_cases hj : i = j ∧ i < s.length
      · rw [if_pos hj]
        obtain ⟨hj, _⟩ := hj
        subst hj
        rw [hv, hf]
        exact .own ⟨fa, ba, va, vs', upd_same, hd'⟩
      · rw [if_neg hj]
        refine (h1 j).upd_ fun z => hj ⟨?_, hi⟩
        exact h2 i j a (by rw [hf]; simp) z
end
section
variable {Y : Fx} {E : XK} {X : Cx} {e a b c : Expr} {es : List Expr} {pos : Pos}
/-! ### an item -/
theorem DvL.atI {K : Frag} {F : Hp} {vs : List V} {xs : List D} (h : DvL K F vs xs) {i : Int} {x : D} (e : L2.atI xs i = some x) : ∃ v, L2.atI vs i = some v ∧ Dv K F v x := by
  unfold L2.atI at e ⊢
  rw [h.length]
  cases e2 : ixN xs.length i with
  | none => rw [e2] at e; cases e
  | some j =>
    rw [e2] at e
    exact h.get e
def rIx (Y : Fx) : R2 := fun x y H Q => ∃ (C : Ct) (F : Hp) (dx dy d : D), C.toFx = Y ∧ Same F H ∧ Rv C.K F H x dx ∧ Rv C.K F H y dy ∧ ixD dx dy = some d ∧ ∀ v, Dv C.K F v d → Q v H
theorem ixR (hK : X.K = Y.K) : IxR X (rIx Y) := by
  intro value slice pins s σ H x y v u Q I rx ry ⟨C, F, dx, dy, d, hY, sf, hx, hy, e, q⟩ hs
  have hCK : C.K = X.K := by rw [hK, ← hY]
  cases dx with
  | list xs =>
    cases dy with
    | int i =>
      obtain ⟨p, vs, rfl, hp, dv⟩ := hx
      obtain ⟨z, ez, dz⟩ := dv.atI e
      exact ix_list value slice pins s σ H _ y v u Q I rx ry ⟨p, vs, i, z, rfl, hy.int_, SqL.of hp, ez, q z dz⟩ hs
    | _ => cases e
  | tuple xs =>
    cases dy with
    | int i =>
      have h' : Dv C.K F x (.tuple xs) := hx
      cases h' with
      | @tup p vs _ hp dv =>
        obtain ⟨z, ez, dz⟩ := dv.atI e
        refine ix_tup value slice pins s σ H _ y v u Q I rx ry ⟨p, vs, i, z, rfl, hy.int_, ?_, ez, q z dz⟩ hs
        rw [← hCK]
        exact same_tup sf hp
    | _ => cases e
  | _ => cases e
theorem so_idx (hK : X.K = Y.K) {f g : S → M (Opr × S)} (ha : PE X a (tO Y E f)) (hb : PE X b (tO Y E g)) (hs : PlainIx b) :
    PE X (.Subscript a b pos) (tV Y E fun s => (f s).bind fun r => (g r.2).bind fun q => (M.ofOpt ((res q.2 r.1).bind fun x => (res q.2 q.1).bind fun y => ixD x y)).bind fun v => .ret (.d v, q.2)) := by
  refine pe_imp (pe_ix (ixR hK) ha hb hs) fun σ H Q ⟨C, F, dk, s, hY, hE, r, q⟩ => ?_
  refine two (h := fun o q => (M.ofOpt ((res q.2 o).bind fun x => (res q.2 q.1).bind fun y => ixD x y)).bind fun v => .ret (Vl.d v, q.2)) hY hE r (fun _ _ z => z) q fun F2 H2 d2 o1 o2 s2 x y r2 h1 h2 hq => ?_
  obtain ⟨dx, v, e1, e2, hv⟩ := all_bind_opt hq
  obtain ⟨dy, e3, e4⟩ := bind_opt e2
  exact ⟨C, F2, dx, dy, v, hY, r2.w.fh, h1.rv r2 e1, h2.rv r2 e3, e4, fun z hz => hv F2 H2 d2 z (r2.with_d hz)⟩
/-! ### a slice -/
theorem sIx_le (n d : Nat) (hd : d ≤ n) (o : Option Int) : HT.sIx n d o ≤ n := by
  unfold HT.sIx
  cases o with
  | none => exact hd
  | some i =>
    dsimp only
    split <;> omega
theorem DvL.cut {K : Frag} {F : Hp} {vs : List V} {xs : List D} (h : DvL K F vs xs) (lo hi : Option Int) : DvL K F (cutV vs lo hi) (cut xs lo hi) := by
  unfold cutV TP.cut
  rw [h.length]
  exact (h.drop _).take _
def rSc (Y : Fx) : V → Option Int → Option Int → Hp → VK → Prop := fun x lo hi H Q => ∃ (C : Ct) (F : Hp) (dk : List (Addr × Addr)) (σ : LS) (s : S) (dx : D) (v : Vl), C.toFx = Y ∧ Rel C F H dk σ s ∧ Rv C.K F H x dx ∧ slcD dx lo hi = some v ∧
  ∀ F' H' dk' z, Rel1 C F' H' dk' σ s z v → Q z H'
theorem slR (hK : X.K = Y.K) : L2.SlR X (rSc Y) := by
  intro pins s σ H x v vl vu lo hi sl Q I rx hs pl pu ⟨C, F, dk, τ, t, dx, z, hY, r, hx, e, q⟩
  have hCK : C.K = X.K := by rw [hK, ← hY]
  cases dx with
  | list xs =>
    have ez := Option.some.inj e
    obtain ⟨p, vs, rfl, hp, dv⟩ := hx
    exact sl_list pins s σ H _ v vl vu lo hi sl Q I rx hs pl pu ⟨p, vs, rfl, SqL.of hp, fun p hp => q _ _ dk _ (by rw [← ez]; exact r.newOwn hp (dv.cut lo hi))⟩
  | tuple xs =>
    have ez := Option.some.inj e
    obtain ⟨p, vs, rfl, hp, dv⟩ := hx.tup_ r.w
    rw [hCK] at hp
    refine sl_tupA pins s σ H _ v vl vu lo hi sl Q I rx hs pl pu ⟨p, vs, rfl, hp, fun hw => ?_, fun _ p hp => q _ _ dk _ (by rw [← ez]; exact r.newTup hp (dv.cut lo hi))⟩
    refine q F H dk _ ?_
    rw [← ez]
    have ec : cut xs lo hi = xs := by
      unfold cut
      rw [dv.length] at hw
      rw [hw.1, hw.2]
      simp
    rw [ec]
    exact r.with_d hx
  | _ => cases e
/-- a slice's part -/
def tP (Y : Fx) (E : XK) (f : S → M (Option Int × S)) : TO := fun σ H Q => ∃ C F dk s, C.toFx = Y ∧ C.E = E ∧ Rel C F H dk σ s ∧ (f s).All (fun r => ∀ F' H' dk', Rel C F' H' dk' σ r.2 → Q r.1 H') (RPost C)
theorem po_imp {e : Option Expr} {t t' : TO} (h : PO X e t) (w : ∀ σ H Q, t' σ H Q → t σ H Q) : PO X e t' := ⟨fun pins s σ H Q I q => h.run pins s σ H Q I (w σ H Q q)⟩
theorem so_part0 : PO X none (tP Y E fun s => .ret (none, s)) := po_imp po_none fun σ H Q ⟨C, F, dk, s, hY, hE, r, q⟩ => q F H dk r
theorem so_part1 {f : S → M (Vl × S)} (h : PE X e (tV Y E f)) : PO X (some e) (tP Y E fun s => (fz (f s)).bind fun r => (M.ofOpt (intD r.1)).bind fun i => .ret (some i, r.2)) := by
  refine po_imp (po_some (so_fz h)) fun σ H Q ⟨C, F, dk, s, hY, hE, r, q⟩ => ?_
  refine oneF hY hE r (fun _ _ z => z) q fun F1 H1 d1 y s1 x r1 h1 hq => ?_
  obtain ⟨i, e2, hq⟩ := M.all_ofOpt ((M.all_bind _).mp hq)
  have ey : y = .int i := by
    cases y with
    | int j => exact congrArg PyData.int (Option.some.inj e2)
    | _ => cases e2
  subst ey
  cases h1
  exact ⟨i, rfl, hq F1 H1 d1 r1⟩
theorem so_slc (hK : X.K = Y.K) {lo hi : Option Expr} {p2 : Pos} {f : S → M (Opr × S)} {g h : S → M (Option Int × S)} (ha : PE X a (tO Y E f)) (hl : PO X lo (tP Y E g)) (hu : PO X hi (tP Y E h)) :
    PE X (.Subscript a (.Slice lo hi none p2) pos) (tV Y E fun s => (f s).bind fun r => (g r.2).bind fun q => (h q.2).bind fun p => (M.ofOpt ((res p.2 r.1).bind fun x => slcD x q.1 p.1)).bind fun v => .ret (v, p.2)) := by
  refine pe_imp (pe_slice (slR hK) ha hl hu) fun σ H Q ⟨C, F, dk, s, hY, hE, r, q⟩ => ?_
  refine ⟨C, F, dk, s, hY, hE, r, ((M.all_bind _).mp q).mono (fun p hp F1 H1 d1 x r1 o1 => ?_) fun _ _ z => z⟩
  refine ⟨C.now F1 d1, F1, d1, p.2, hY, hE, r1.now, ((M.all_bind _).mp hp).mono (fun p2 hp2 F2 H2 d2 r2 => ?_) fun c z hz => hz.now r1.w⟩
  have r2' := r2.unnow r1.w
  refine ⟨C.now F2 d2, F2, d2, p2.2, hY, hE, r2'.now, ((M.all_bind _).mp hp2).mono (fun p3 hp3 F3 H3 d3 r3 => ?_) fun c z hz => hz.now r2'.w⟩
  have r3' := r3.unnow r2'.w
  obtain ⟨dx, v, e1, e2, hv⟩ := all_bind_opt hp3
  exact ⟨C, F3, d3, σ, p3.2, dx, v, hY, r3', ((o1.mono r2.w.ff).mono r3.w.ff).rv r3' e1, e2, fun F' H' dk' z r4 => hv F' H' dk' z r4⟩
/-! ### x[::-1] -/
theorem so_rev (hK : X.K = Y.K) {k : Nat} {p1 p2 p3 : Pos} {f : S → M (Opr × S)} (ha : PE X a (tO Y E f)) :
    PE X (.Subscript a (.Slice none none (some (.UnaryOp .USub (.Constant (.int 1) k p1) p2)) p3) pos) (tV Y E fun s => (f s).bind fun r => (M.ofOpt ((res r.2 r.1).bind revD)).bind fun v => .ret (v, r.2)) := by
  refine pe_imp (pe_back ha) fun σ H Q ⟨C, F, dk, s, hY, hE, r, q⟩ => ?_
  refine one hY hE r (fun _ _ z => z) q fun F1 H1 d1 o1 s1 x r1 h1 hq => ?_
  obtain ⟨dx, v, e1, e2, hv⟩ := all_bind_opt hq
  have hx := h1.rv r1 e1
  cases dx with
  | list xs =>
    have ez := Option.some.inj e2
    obtain ⟨p, vs, rfl, hp, dv⟩ := hx
    exact ⟨p, vs, rfl, .inl ⟨SqL.of hp, fun p hp => hv _ _ d1 _ (by rw [← ez]; exact r1.newOwn hp dv.reverse)⟩⟩
  | tuple xs =>
    have ez := Option.some.inj e2
    obtain ⟨p, vs, rfl, hp, dv⟩ := hx.tup_ r1.w
    rw [fK hY hK] at hp
    exact ⟨p, vs, rfl, .inr ⟨hp, fun p hp => hv _ _ d1 _ (by rw [← ez]; exact r1.newTup hp dv.reverse)⟩⟩
  | _ => cases e2
/-! ### isinstance -/
def tyN : Ty → String
  | .int => "int" | .bool => "bool" | .str => "str" | .tuple => "tuple" | .list => "list" | .dict => "dict"
def tyD : D → String
  | .none => "NoneType" | .bool _ => "bool" | .int _ => "int" | .str _ => "str" | .list _ => "list" | .tuple _ => "tuple" | .dict _ => "dict"
theorem kit_is {K : Frag} (x : D) (t : Ty) : PySem.W.kitOne K (.type (tyD x)) (.type (tyN t)) = some (isT t x) := by
  apply kit_ty
  cases x <;> cases t <;> (simp only [tyD, tyN, isT]; decide +kernel)
theorem kit_any {K : Frag} (x : D) : ∀ ts : List Ty, PySem.W.kitAny K (.type (tyD x)) (ts.map fun t => .type (tyN t)) = some (isinD ts x)
  | [] => kitAny_nil
  | t :: ts => by
    show _ = some (isT t x || isinD ts x)
    refine kitAny_cons (kit_is x t) (fun h => ?_) fun h => ?_
    · rw [h, Bool.false_or]; exact kit_any x ts
    · rw [h, Bool.true_or]
theorem Rv.tyx {K : Frag} {F H : Hp} {v : V} {x : D} (sf : Same F H) (h : Rv K F H v x) : TyX K H v (.type (tyD x)) := by
  cases x with
  | list xs =>
    obtain ⟨a, vs, rfl, ha, _⟩ := h
    exact .base (.lst ha)
  | none => have h' : Dv K F v .none := h; cases h'; exact .base .non
  | bool b => have h' : Dv K F v (.bool b) := h; cases h'; exact .base (.bl b)
  | int b => have h' : Dv K F v (.int b) := h; cases h'; exact .base (.int b)
  | str b => have h' : Dv K F v (.str b) := h; cases h'; exact .base (.str b)
  | tuple b =>
    have h' : Dv K F v (.tuple b) := h
    cases h' with
    | tup e _ =>
      rcases e with (e | ⟨o, e⟩) | ⟨o, its, n, e, c, _⟩
      · exact .base (.tup (sf _ _ e))
      · exact .fTuple (sf _ _ e)
      · exact .kTuple e c
  | dict b =>
    have h' : Dv K F v (.dict b) := h
    cases h' with
    | dic e => exact .base (.dK (sf _ _ e))
/-- the classes, written one or in a tuple -/
def tClsT (ts : List Ty) : TE := fun σ H Q => ∀ p, H p = none → Q (.ref p) (upd H p (.tup (ts.map fun t => .ty (tyN t))))
theorem clsP : ∀ ts : List Ty, Paired ClsV (ts.map fun t => V.ty (tyN t)) (ts.map fun t => Value.type (tyN t))
  | [] => .nil
  | t :: ts => .cons (.ty _) (clsP ts)
/-- what the call reads -/
def tIsi (te tc : TE) : TA := tCons te (tCons tc tNil)
theorem isi_one (hK : X.K = Y.K) {f : S → M (Opr × S)} {t : Ty} {σ : LS} {H : Hp} {Q : VK} (q : tV Y E (fun s => (f s).bind fun r => (M.ofOpt (res r.2 r.1)).bind fun x => .ret (.d (.bool (isinD [t] x)), r.2)) σ H Q) :
    tCB (rIsi X.K) (tIsi (tO Y E f) (tC (.ty (tyN t)))) σ H Q := by
  obtain ⟨C, F, dk, s, hY, hE, r, q⟩ := q
  refine one hY hE r (fun _ _ z => z) q fun F1 H1 d1 o1 s1 x r1 h1 hq => ?_
  obtain ⟨dx, e1, hv⟩ := M.all_ofOpt ((M.all_bind _).mp hq)
  have hx := h1.rv r1 e1
  refine ⟨x, _, _, _, isT t dx, rfl, .ty _, by rw [← fK hY hK]; exact hx.tyx r1.w.fh, kit_is dx t, ?_⟩
  have e : isinD [t] dx = isT t dx := by
    show (isT t dx || false) = _
    rw [Bool.or_false]
  have hv' := hv F1 H1 d1 (.bl (isinD [t] dx)) (r1.with_d (.bl _))
  rw [e] at hv'
  exact hv'
theorem isi_tup (hK : X.K = Y.K) {f : S → M (Opr × S)} {ts : List Ty} {σ : LS} {H : Hp} {Q : VK} (q : tV Y E (fun s => (f s).bind fun r => (M.ofOpt (res r.2 r.1)).bind fun x => .ret (.d (.bool (isinD ts x)), r.2)) σ H Q) :
    tCB (rIsiT X.K) (tIsi (tO Y E f) (tClsT ts)) σ H Q := by
  obtain ⟨C, F, dk, s, hY, hE, r, q⟩ := q
  refine one hY hE r (fun _ _ z => z) q fun F1 H1 d1 o1 s1 x r1 h1 hq => ?_
  obtain ⟨dx, e1, hv⟩ := M.all_ofOpt ((M.all_bind _).mp hq)
  intro p hp
  have r2 := r1.newF (ob := .tup (ts.map fun t => V.ty (tyN t))) hp
  have hx := (OR.mono (same_upd (r1.w.freeF hp)) h1).rv r2 e1
  exact ⟨x, p, _, _, _, isinD ts dx, rfl, upd_same, clsP ts, by rw [← fK hY hK]; exact hx.tyx r2.w.fh, kit_any dx ts, hv _ _ d1 _ (r2.with_d (.bl _))⟩
end
end TP
end

section
set_option linter.all false
set_option maxRecDepth 100000
/-! Built-in functions. -/
namespace TP
open PySem L2 PySem.Spec PyProof.Rows
def RvL (K : Frag) (F H : Hp) : List V → List D → Prop
  | [], [] => True
  | v :: vs, d :: ds => Rv K F H v d ∧ RvL K F H vs ds
  | _, _ => False
theorem RvL.one {K : Frag} {F H : Hp} : ∀ {vs : List V} {d : D}, RvL K F H vs [d] → ∃ v, vs = [v] ∧ Rv K F H v d
  | [v], _, h => ⟨v, rfl, h.1⟩
  | [], _, h => h.elim
  | _ :: _ :: _, _, h => h.2.elim
theorem RvL.two {K : Frag} {F H : Hp} : ∀ {vs : List V} {d e : D}, RvL K F H vs [d, e] → ∃ v u, vs = [v, u] ∧ Rv K F H v d ∧ Rv K F H u e
  | [v, u], _, _, h => ⟨v, u, rfl, h.1, h.2.1⟩
  | [], _, _, h => h.elim
  | [_], _, _, h => h.2.elim
  | _ :: _ :: _ :: _, _, _, h => h.2.2.elim
theorem ORL.rv {C : Ct} {F H : Hp} {dk : List (Addr × Addr)} {σ : LS} {s : S} (r : Rel C F H dk σ s) : ∀ {os : List Opr} {vs : List V} {ds : List D}, ORL C F σ vs os → resL s os = some ds → RvL C.K F H vs ds
  | [], [], ds, _, e => by
    have e' : [] = ds := Option.some.inj e
    subst e'
    trivial
  | [], _ :: _, _, h, _ => h.elim
  | _ :: _, [], _, h, _ => h.elim
  | o :: os, v :: vs, ds, h, e => by
    have e' : ((res s o).bind fun x => (resL s os).map (x :: ·)) = some ds := e
    obtain ⟨x, e1, e2⟩ := bind_opt e'
    cases e3 : resL s os with
    | none => rw [e3] at e2; cases e2
    | some xs =>
      rw [e3] at e2
      have e4 : x :: xs = ds := Option.some.inj e2
      subst e4
      exact ⟨h.1.rv r e1, ORL.rv r h.2 e3⟩
def rB (Y : Fx) (b : Bi) : List V → Hp → VK → Prop := fun vs H Q => ∃ (C : Ct) (F : Hp) (dk : List (Addr × Addr)) (σ : LS) (s : S) (ds : List D) (v : Vl), C.toFx = Y ∧ Rel C F H dk σ s ∧ RvL C.K F H vs ds ∧ biD b ds = some v ∧ ∀ F' H' dk' z, Rel1 C F' H' dk' σ s z v → Q z H'
/-- the built-in's name in the text, the callee -/
def biN : Bi → Str
  | .abs => "abs" | .max2 => "max" | .min2 => "min" | .int => "int" | .len => "len" | .list => "list" | .tuple => "tuple" | .sum => "sum" | .all => "all" | .any => "any" | .maxL => "max" | .minL => "min" | .repr => "repr" | .str => "str" | .comb => "comb"
  | .listZip => "list" | .sorted => "sorted"
def biV : Bi → Value
  | .abs => .builtin "abs" | .max2 => .builtin "max" | .min2 => .builtin "min" | .int => .type "int" | .len => .builtin "len" | .list => .type "list" | .tuple => .type "tuple" | .sum => .builtin "sum" | .all => .builtin "all" | .any => .builtin "any"
  | .maxL => .builtin "max" | .minL => .builtin "min" | .repr => .builtin "repr" | .str => .type "str" | .comb => .builtin "math.comb" | .listZip => .type "list" | .sorted => .builtin "sorted"
theorem map_opt {α β : Type} {o : Option α} {g : α → β} {y : β} (h : o.map g = some y) : ∃ x, o = some x ∧ g x = y := by
  cases o with
  | none => cases h
  | some x => exact ⟨x, rfl, Option.some.inj h⟩
theorem foldMax : ∀ (l : List Int) (x : Int), (l.foldl (fun a b => if b > a then b else a) x ∈ x :: l) ∧ ∀ y ∈ x :: l, y ≤ l.foldl (fun a b => if b > a then b else a) x
  | [], x => ⟨by simp, by simp⟩
  | z :: l, x => by
    obtain ⟨h1, h2⟩ := foldMax l (if z > x then z else x)
    refine ⟨?_, fun y hy => ?_⟩
    · rw [List.foldl_cons]
      rcases List.mem_cons.mp h1 with e | e
      · rw [e]
        split <;> simp
      · simp [e]
    · rw [List.foldl_cons]
      have h0 := h2 _ (List.mem_cons_self)
      rcases List.mem_cons.mp hy with e | e
      · subst e
        refine Int.le_trans ?_ h0
        split <;> omega
      · rcases List.mem_cons.mp e with e | e
        · subst e
          refine Int.le_trans ?_ h0
          split <;> omega
        · exact h2 y (List.mem_cons_of_mem _ e)
theorem foldMin : ∀ (l : List Int) (x : Int), (l.foldl (fun a b => if b < a then b else a) x ∈ x :: l) ∧ ∀ y ∈ x :: l, l.foldl (fun a b => if b < a then b else a) x ≤ y
  | [], x => ⟨by simp, by simp⟩
  | z :: l, x => by
    obtain ⟨h1, h2⟩ := foldMin l (if z < x then z else x)
    refine ⟨?_, fun y hy => ?_⟩
    · rw [List.foldl_cons]
      rcases List.mem_cons.mp h1 with e | e
      · rw [e]
        split <;> simp
      · simp [e]
    · rw [List.foldl_cons]
      have h0 := h2 _ (List.mem_cons_self)
      rcases List.mem_cons.mp hy with e | e
      · subst e
        refine Int.le_trans h0 ?_
        split <;> omega
      · rcases List.mem_cons.mp e with e | e
        · subst e
          refine Int.le_trans h0 ?_
          split <;> omega
        · exact h2 y (List.mem_cons_of_mem _ e)
theorem foldMaxEq (l : List Int) (x : Int) : l.foldl (fun a b => if b > a then b else a) x = l.foldl max x := by
  have e : (fun a b : Int => if b > a then b else a) = max := by
    funext a b
    by_cases h : b > a
    · rw [if_pos h]; omega
    · rw [if_neg h]; omega
  rw [e]
theorem foldMinEq (l : List Int) (x : Int) : l.foldl (fun a b => if b < a then b else a) x = l.foldl min x := by
  have e : (fun a b : Int => if b < a then b else a) = min := by
    funext a b
    by_cases h : b < a
    · rw [if_pos h]; omega
    · rw [if_neg h]; omega
  rw [e]
theorem Rv.dv {K : Frag} {F H : Hp} (sf : Same F H) {v : V} {x : D} (h : Rv K F H v x) : ∃ F', Same F' H ∧ Dv K F' v x := by
  cases x with
  | list xs =>
    obtain ⟨a, vs, rfl, ha, dv⟩ := h
    have s1 : Same (upd F a (.lst vs)) H := fun b o e => by
      by_cases hb : b = a
      · rw [hb, upd_same] at e
        rw [hb, ha]
        exact e
      · rw [upd_ne hb] at e
        exact sf _ _ e
    have s2 : Same F (upd F a (.lst vs)) := fun b o e => by
      by_cases hb : b = a
      · subst hb
        rw [upd_same]
        have := sf _ _ e
        rw [ha] at this
        exact this
      · rw [upd_ne hb]
        exact e
    exact ⟨_, s1, .lst upd_same (DvL.mono s2 _ _ dv)⟩
  | none => exact ⟨F, sf, h⟩
  | bool b => exact ⟨F, sf, h⟩
  | int b => exact ⟨F, sf, h⟩
  | str b => exact ⟨F, sf, h⟩
  | tuple b => exact ⟨F, sf, h⟩
  | dict b => exact ⟨F, sf, h⟩
section
variable {X : Cx} {Y : Fx}
/-- which are covered here -/
def biOk : Bi → Bool
  | .listZip | .sorted => false
  | _ => true
theorem crB (hK : X.K = Y.K) (hc : X.calm = true) (hg : X.A.guards = some []) (hu : X.A.units + 200 < cLine) (b : Bi) (hb : biOk b = true) : CallR X (biV b) (rB Y b) := by
  intro pins s σ H vs us Q I rv ⟨C, F, dk, τ, t, ds, v, hY, r, hr, e, q⟩
  have hCK : C.K = X.K := by rw [hK, ← hY]
  have fin : ∀ {i : Int}, v = .d (.int i) → Q (.int i) H := fun {i} ez => q F H dk (.int i) (by rw [ez]; exact r.with_d (.int i))
  have finB : ∀ {i : Bool}, v = .d (.bool i) → Q (.bl i) H := fun {i} ez => q F H dk (.bl i) (by rw [ez]; exact r.with_d (.bl i))
  -- a list of one value
  have one : ∀ {d : D}, ds = [d] → ∃ x, vs = [x] ∧ Rv C.K F H x d := fun {d} ed => by
    subst ed
    exact hr.one
  have twoI : ∀ {i j : Int}, ds = [.int i, .int j] → vs = [.int i, .int j] := fun {i j} ed => by
    subst ed
    obtain ⟨x, y, ev, h1, h2⟩ := hr.two
    rw [ev, h1.int_, h2.int_]
  have seq : ∀ {d : D} {xs : List D}, ds = [d] → (d = .list xs ∨ d = .tuple xs) → ∃ p ws, vs = [.ref p] ∧ DvL C.K F ws xs ∧ ((d = .list xs ∧ SqL X.K H p ws) ∨ (d = .tuple xs ∧ SqT X.K H p ws)) := fun {d xs} ed h => by
    obtain ⟨x, ev, hx⟩ := one ed
    rcases h with h | h
    · subst h
      obtain ⟨p, ws, ex, hp, dv⟩ := hx
      exact ⟨p, ws, by rw [ev, ex], dv, .inl ⟨rfl, SqL.of hp⟩⟩
    · subst h
      obtain ⟨p, ws, ex, hp, dv⟩ := hx.tup_ r.w
      exact ⟨p, ws, by rw [ev, ex], dv, .inr ⟨rfl, by rw [← hCK]; exact hp⟩⟩
  cases b with
  | str =>
    match ds, e, @one with
    | [.int i], e, one =>
      obtain ⟨x, ev, hx⟩ := one rfl
      obtain ⟨hc2, ez⟩ := ite_some e
      exact call_str_int pins s σ H vs us Q I rv ⟨i, by rw [ev, hx.int_], hc2, q F H dk _ (by rw [← ez]; exact r.with_d (.str _))⟩
  | listZip => cases hb
  | sorted => cases hb
  | abs =>
    match ds, e, @one with
    | [.int i], e, one =>
      obtain ⟨x, ev, hx⟩ := one rfl
      exact call_abs pins s σ H vs us Q I rv ⟨i, by rw [ev, hx.int_], fin (Option.some.inj e).symm⟩
  | max2 =>
    match ds, e, @twoI with
    | [.int i, .int j], e, twoI => exact call_max2 hc pins s σ H vs us Q I rv ⟨i, j, twoI rfl, fin (Option.some.inj e).symm⟩
  | min2 =>
    match ds, e, @twoI with
    | [.int i, .int j], e, twoI => exact call_min2 hc pins s σ H vs us Q I rv ⟨i, j, twoI rfl, fin (Option.some.inj e).symm⟩
  | int =>
    match ds, e, @one with
    | [.int i], e, one =>
      obtain ⟨x, ev, hx⟩ := one rfl
      exact call_int1 pins s σ H vs us Q I rv (.inl ⟨i, by rw [ev, hx.int_], fin (Option.some.inj e).symm⟩)
    | [.bool i], e, one =>
      obtain ⟨x, ev, hx⟩ := one rfl
      have hx' : Dv C.K F x (.bool i) := hx
      cases hx'
      exact call_int1 pins s σ H vs us Q I rv (.inr ⟨i, ev, fin (Option.some.inj e).symm⟩)
  | len =>
    match ds, e, @one, @seq with
    | [.list xs], e, one, seq =>
      obtain ⟨p, ws, ev, dv, h⟩ := seq rfl (.inl rfl)
      rcases h with ⟨_, h⟩ | ⟨h, _⟩
      · exact call_len pins s σ H vs us Q I rv ⟨_, ws.length, ev, .inl ⟨ws, h, rfl⟩, by rw [dv.length]; exact fin (Option.some.inj e).symm⟩
      · cases h
    | [.tuple xs], e, one, seq =>
      obtain ⟨p, ws, ev, dv, h⟩ := seq rfl (.inr rfl)
      rcases h with ⟨h, _⟩ | ⟨_, h⟩
      · cases h
      · exact call_len pins s σ H vs us Q I rv ⟨_, ws.length, ev, .inr ⟨ws, h, rfl⟩, by rw [dv.length]; exact fin (Option.some.inj e).symm⟩
    | [.str x], e, one, seq =>
      obtain ⟨z, ev, hx⟩ := one rfl
      have hx' : Dv C.K F z (.str x) := hx
      cases hx'
      obtain ⟨c, ez⟩ := ite_some e
      exact call_len pins s σ H vs us Q I rv ⟨_, x.length, ev, ⟨by rw [line_eq]; exact c, rfl⟩, fin ez.symm⟩
  | list =>
    have g : ∀ {d : D} {xs : List D}, ds = [d] → (d = .list xs ∨ d = .tuple xs) → v = .own xs → wpAny (model X.prog X.w) X.A (PySem.call (biV .list) us) (EP X pins σ Q) X.xe s := fun {d xs} ed h ez => by
      obtain ⟨p, ws, ev, dv, h⟩ := seq ed h
      exact call_list_of pins s σ H vs us Q I rv ⟨p, ws, ev, h.elim (fun h => .inl h.2) fun h => .inr h.2, fun l hl => q _ _ dk _ (by rw [ez]; exact r.newOwn hl dv)⟩
    match ds, e, @g with
    | [.list xs], e, g => exact g rfl (.inl rfl) (Option.some.inj e).symm
    | [.tuple xs], e, g => exact g rfl (.inr rfl) (Option.some.inj e).symm
  | tuple =>
    match ds, hr, e, @one, @seq with
    | [.list xs], hr, e, one, seq =>
      have ez := (Option.some.inj e).symm
      obtain ⟨p, ws, ev, dv, h⟩ := seq rfl (.inl rfl)
      rcases h with ⟨_, h⟩ | ⟨h, _⟩
      · exact call_tuple_of pins s σ H vs us Q I rv ⟨p, ws, ev, .inl ⟨h, fun l hl => q _ _ dk _ (by rw [ez]; exact r.newTup hl dv)⟩⟩
      · cases h
    | [.tuple xs], hr, e, one, seq =>
      have ez := (Option.some.inj e).symm
      obtain ⟨p, ws, ev, dv, h⟩ := seq rfl (.inr rfl)
      rcases h with ⟨h, _⟩ | ⟨_, h⟩
      · cases h
      · obtain ⟨x, ev2, hx⟩ := hr.one
        rw [ev] at ev2
        cases ev2
        exact call_tuple_of pins s σ H vs us Q I rv ⟨p, ws, ev, .inr ⟨h, q F H dk _ (by rw [ez]; exact r.with_d hx)⟩⟩
  | sum =>
    match ds, e, @seq with
    | [.list xs], e, seq =>
      obtain ⟨ns, e1, e2⟩ := map_opt e
      obtain ⟨p, ws, ev, dv, h⟩ := seq rfl (.inl rfl)
      rw [intsD_eq e1] at dv
      rcases h with ⟨_, h⟩ | ⟨h, _⟩
      · exact cr_sum hc pins s σ H vs us Q I rv ⟨p, ns, ev, by rw [← dv.ints]; exact h, fin e2.symm⟩
      · cases h
  | all =>
    match ds, e, @seq with
    | [.list xs], e, seq =>
      obtain ⟨ns, e1, e2⟩ := map_opt e
      obtain ⟨p, ws, ev, dv, h⟩ := seq rfl (.inl rfl)
      rw [boolsD_eq e1] at dv
      rcases h with ⟨_, h⟩ | ⟨h, _⟩
      · exact cr_all hc pins s σ H vs us Q I rv ⟨p, ns, ev, by rw [← dv.bools]; exact h, finB e2.symm⟩
      · cases h
  | any =>
    match ds, e, @seq with
    | [.list xs], e, seq =>
      obtain ⟨ns, e1, e2⟩ := map_opt e
      obtain ⟨p, ws, ev, dv, h⟩ := seq rfl (.inl rfl)
      rw [boolsD_eq e1] at dv
      rcases h with ⟨_, h⟩ | ⟨h, _⟩
      · exact cr_any hc pins s σ H vs us Q I rv ⟨p, ns, ev, by rw [← dv.bools]; exact h, finB e2.symm⟩
      · cases h
  | maxL =>
    match ds, e, @seq with
    | [.list xs], e, seq =>
      obtain ⟨ns, e1, e2⟩ := bind_opt e
      obtain ⟨p, ws, ev, dv, h⟩ := seq rfl (.inl rfl)
      rw [intsD_eq e1] at dv
      rcases h with ⟨_, h⟩ | ⟨h, _⟩
      · cases ns with
        | nil => cases e2
        | cons n ns =>
          have ez : Vl.d (.int (maxI (n :: ns))) = v := Option.some.inj e2
          obtain ⟨m1, m2⟩ := foldMax ns n
          refine cr_max hc pins s σ H vs us Q I rv ⟨p, n :: ns, ev, by rw [← dv.ints]; exact h, Nat.succ_pos _, fun m hm hl => ?_⟩
          have em : m = maxI (n :: ns) := Int.le_antisymm (m2 m hm) (hl _ m1)
          rw [em]
          exact fin ez.symm
      · cases h
    | [.tuple xs], e, seq =>
      obtain ⟨ns, e1, e2⟩ := bind_opt e
      obtain ⟨p, ws, ev, dv, h⟩ := seq rfl (.inr rfl)
      rw [intsD_eq e1] at dv
      rcases h with ⟨h, _⟩ | ⟨_, h⟩
      · cases h
      · cases ns with
        | nil => cases e2
        | cons n ns =>
          have ez : Vl.d (.int (maxI (n :: ns))) = v := Option.some.inj e2
          refine cr_maxT hc hu pins s σ H vs us Q I rv ⟨p, n, ns, ev, by rw [← dv.ints]; exact h, ?_⟩
          rw [← foldMaxEq]
          exact fin ez.symm
  | minL =>
    match ds, e, @seq with
    | [.list xs], e, seq =>
      obtain ⟨ns, e1, e2⟩ := bind_opt e
      obtain ⟨p, ws, ev, dv, h⟩ := seq rfl (.inl rfl)
      rw [intsD_eq e1] at dv
      rcases h with ⟨_, h⟩ | ⟨h, _⟩
      · cases ns with
        | nil => cases e2
        | cons n ns =>
          have ez : Vl.d (.int (minI (n :: ns))) = v := Option.some.inj e2
          obtain ⟨m1, m2⟩ := foldMin ns n
          refine cr_min hc pins s σ H vs us Q I rv ⟨p, n :: ns, ev, by rw [← dv.ints]; exact h, Nat.succ_pos _, fun m hm hl => ?_⟩
          have em : m = minI (n :: ns) := Int.le_antisymm (hl _ m1) (m2 m hm)
          rw [em]
          exact fin ez.symm
      · cases h
    | [.tuple xs], e, seq =>
      obtain ⟨ns, e1, e2⟩ := bind_opt e
      obtain ⟨p, ws, ev, dv, h⟩ := seq rfl (.inr rfl)
      rw [intsD_eq e1] at dv
      rcases h with ⟨h, _⟩ | ⟨_, h⟩
      · cases h
      · cases ns with
        | nil => cases e2
        | cons n ns =>
          have ez : Vl.d (.int (minI (n :: ns))) = v := Option.some.inj e2
          refine cr_minT hc hu pins s σ H vs us Q I rv ⟨p, n, ns, ev, by rw [← dv.ints]; exact h, ?_⟩
          rw [← foldMinEq]
          exact fin ez.symm
  | repr =>
    match ds, e, @one with
    | [d], e, one =>
      obtain ⟨x, ev, hx⟩ := one rfl
      obtain ⟨hc, ez⟩ := ite_some e
      obtain ⟨hc, c3⟩ := Bool.and_eq_true_iff.mp hc
      obtain ⟨c1, c2⟩ := Bool.and_eq_true_iff.mp hc
      obtain ⟨F1, sf, dv⟩ := hx.dv r.w.fh
      have hCY : C.K = Y.K := by rw [← hY]
      rw [hCY] at dv
      exact cr_reprD hK hg hu pins s σ H vs us Q I rv ⟨F1, x, d, ev, sf, dv, c1, by rw [line_eq]; exact of_decide_eq_true c2, of_decide_eq_true c3, q F H dk _ (by rw [← ez]; exact r.with_d (.str _))⟩
  | comb =>
    match ds, e, @twoI with
    | [.int i, .int j], e, twoI =>
      obtain ⟨⟨c1, c2, c3, c4⟩, ez⟩ := ite_some e
      exact cr_comb pins s σ H vs us Q I rv ⟨i, j, twoI rfl, c1, c2, c3, c4, fin ez.symm⟩
end
end TP
end

section
set_option linter.all false
set_option maxRecDepth 100000
/-! How a plain def's parameters are bound: by place, by name. -/
namespace TP
open PySem L2 PySem.Spec PyProof.Rows
theorem zip_lookup {α β : Type} [BEq α] [LawfulBEq α] : ∀ (l : List α) (vs : List β) (i : Nat) (x : α) (v : β), l.Nodup → l[i]? = some x → vs[i]? = some v → (l.zip vs).lookup x = some v
  | [], _, _, _, _, _, h, _ => by simp at h
  | a :: l, [], _, _, _, _, _, h => by simp at h
  | a :: l, w :: vs, 0, x, v, _, h1, h2 => by
    have e1 : a = x := by simpa using h1
    have e2 : w = v := by simpa using h2
    rw [e1, e2]
    simp
  | a :: l, w :: vs, i + 1, x, v, nd, h1, h2 => by
    have h1' : l[i]? = some x := by simpa using h1
    have h2' : vs[i]? = some v := by simpa using h2
    obtain ⟨n1, n2⟩ := List.nodup_cons.mp nd
    have ne : x ≠ a := fun e => n1 (e ▸ List.mem_of_getElem? h1')
    show List.lookup x ((a, w) :: l.zip vs) = some v
    rw [List.lookup_cons]
    have : (x == a) = false := by simpa using ne
    rw [this]
    exact zip_lookup l vs i x v n2 h1' h2'
theorem lookup_notin {α β : Type} [BEq α] [LawfulBEq α] (x : α) : ∀ l : List (α × β), x ∉ l.map (·.1) → l.lookup x = none
  | [], _ => rfl
  | (a, b) :: l, h => by
    rw [List.lookup_cons]
    have ne : x ≠ a := fun e => h (by simp [e])
    have : (x == a) = false := by simpa using ne
    rw [this]
    exact lookup_notin x l fun z => h (by simp [z])
theorem kw_loop {σ : Type} (ps : List Str) (mk : List (Str × Value) → σ) (f : Str × Value → σ → Sem (ForInStep σ))
    (hf : ∀ k v sl, k ∈ ps → sl.lookup k = none → f (k, v) (mk sl) = pure (.yield (mk (sl ++ [(k, v)])))) : ∀ (kw sl : List (Str × Value)), (∀ q ∈ kw, q.1 ∈ ps) → (kw.map (·.1)).Nodup → (∀ q ∈ kw, q.1 ∉ sl.map (·.1)) →
      forIn kw (mk sl) f = pure (mk (sl ++ kw))
  | [], sl, _, _, _ => by rw [List.append_nil]; rfl
  | (k, v) :: kw, sl, h1, h2, h3 => by
    rw [List.forIn_cons, hf k v sl (h1 (k, v) List.mem_cons_self) (lookup_notin _ _ (h3 (k, v) List.mem_cons_self))]
    obtain ⟨n1, n2⟩ := List.nodup_cons.mp (show (k :: kw.map (·.1)).Nodup from h2)
    have e : sl ++ (k, v) :: kw = (sl ++ [(k, v)]) ++ kw := by simp
    rw [e]
    refine Eq.trans ?_ (kw_loop ps mk f hf kw (sl ++ [(k, v)]) (fun q hq => h1 q (List.mem_cons_of_mem _ hq)) n2 fun q hq => ?_)
    · rfl
    · intro z
      rw [List.map_append] at z
      rcases List.mem_append.mp z with z | z
      · exact h3 q (List.mem_cons_of_mem _ hq) z
      · have : q.1 = k := by simpa using z
        exact n1 (this ▸ List.mem_map.mpr ⟨q, hq, rfl⟩)
theorem bind_plain (fd : FuncData) (ps : List Str) (us : List Value) (kw : List (Str × Value)) (h1 : fd.params.posonlyargs = []) (h2 : fd.params.args.map (·.arg) = ps) (h3 : fd.params.vararg = none) (h4 : fd.params.kwonlyargs = []) (h5 : fd.params.kwarg = none)
    (h6 : fd.defaults = .none) (hn : us.length ≤ ps.length) (hk : ∀ q ∈ kw, q.1 ∈ ps) (nd : (kw.map (·.1)).Nodup) (hs : ∀ q ∈ kw, q.1 ∉ (ps.zip us).map (·.1)) (ha : ∀ p ∈ ps, ((ps.zip us ++ kw).lookup p).isSome = true) :
    bindArgs fd ⟨us, kw⟩ = pure (ps.filterMap fun n => ((ps.zip us ++ kw).lookup n).map (n, ·)) := by
  obtain ⟨nm, qn, ⟨pos, as, va, ko, kd, kwa, dfs⟩, bd, sc, df, f7, f8, f9, f10, f11⟩ := fd
  dsimp only at h1 h2 h3 h4 h5 h6
  subst h1 h2 h3 h4 h5 h6
  unfold bindArgs
  dsimp only
  refine Eq.trans (congrArg (· >>= _) (kw_loop (as.map (·.arg)) (fun sl => (sl, ([] : List (Str × Value)))) _ (fun k v sl e1 e2 => ?_) kw ((as.map (·.arg)).zip us) hk nd hs)) ?_
  · have c1 : ((as.map (·.arg)).contains k || (([] : List Arg).map (·.arg)).contains k) = true := by
      rw [Bool.or_eq_true]
      exact .inl (List.contains_iff_mem.mpr e1)
    have c2 : ¬ (sl.lookup k).isSome = true := by rw [e2]; exact Bool.false_ne_true
    refine (if_pos c1).trans ?_
    exact if_neg c2
  · have gl : ∀ p ∈ as.map (·.arg), ((as.map (·.arg)).zip us ++ kw).lookup p ≠ none := fun p hp e => by
      have := ha p hp
      rw [e] at this
      cases this
    have c3 : ¬ ((decide (us.length > (as.map (·.arg)).length) && (Option.none : Option Arg).isNone) = true) := by
      intro z
      have := of_decide_eq_true (Bool.and_eq_true_iff.mp z).1
      omega
    refine Eq.trans (if_neg c3) ?_
    have cD : ∀ n, List.drop n ((Option.none : Option (Array Value)).getD #[]).toList = [] := fun n => List.drop_nil
    have c4 : ((as.map (·.arg)).filter fun n => (List.lookup n ((as.map (·.arg)).zip us ++ kw)).isNone) = [] := by
      rw [List.filter_eq_nil_iff]
      intro p hp z
      exact gl p hp (Option.isNone_iff_eq_none.mp z)
    have c5 : ¬ ((!(((as.map (·.arg)).take (as.map (·.arg)).length).filter fun n => (List.lookup n ((as.map (·.arg)).zip us ++ kw)).isNone).isEmpty) = true) := by
      rw [List.take_length, c4]
      decide
    simp only [cD, List.zip_nil_right]
    refine Eq.trans (if_neg c5) ?_
    show (pure (((as.map fun (x : Arg) => x.arg) ++ []).filterMap fun n => ((((as.map fun (x : Arg) => x.arg).zip us ++ kw).lookup n).map (n, ·))) : Sem (List (Str × Value))) = _
    rw [List.append_nil]
/-- by place (n of them) and by the names ks; is: where each parameter's value lies in the written order -/
def orderOk (ps : List Str) (n : Nat) (ks : List Str) (ids : List Nat) : Bool :=
  decide (n + ks.length = ps.length) && decide ((ps.take n ++ ks).Nodup) && decide (ids.length = ps.length) && decide (ids.filterMap (fun i => (ps.take n ++ ks)[i]?) = ps) && decide (∀ i ∈ ids, i < ps.length) && decide (∀ k ∈ ks, k ∈ ps)
theorem zip_take {α β : Type} : ∀ (l : List α) (vs : List β), l.zip vs = (l.take vs.length).zip vs
  | [], vs => by simp
  | a :: l, [] => by simp
  | a :: l, v :: vs => by
    show (a, v) :: l.zip vs = (a, v) :: (l.take vs.length).zip vs
    rw [zip_take l vs]
theorem order_len {α : Type} {ids : List Nat} {l : List α} (h : ∀ i ∈ ids, i < l.length) : (order ids l).length = ids.length := by
  induction ids with
  | nil => rfl
  | cons i r ih =>
    unfold order
    rw [List.filterMap_cons, List.getElem?_eq_getElem (h i (by simp))]
    exact congrArg Nat.succ (ih fun j hj => h j (List.mem_cons_of_mem _ hj))
theorem order_zip {β : Type} (given : List Str) (vals : List β) (nd : given.Nodup) (hl : given.length = vals.length) (k : Str → Option β) (hk : ∀ (i : Nat) (x : Str) (v : β), given[i]? = some x → vals[i]? = some v → k x = some v) :
    ∀ ids : List Nat, (∀ i ∈ ids, i < given.length) → (ids.filterMap fun i => given[i]?).filterMap (fun n => (k n).map (n, ·)) = (ids.filterMap fun i => given[i]?).zip (order ids vals)
  | [], _ => rfl
  | i :: ids, h => by
    have hi := h i (by simp)
    have e1 : given[i]? = some given[i] := List.getElem?_eq_getElem hi
    have hv : i < vals.length := by omega
    have e2 : vals[i]? = some vals[i] := List.getElem?_eq_getElem hv
    have ih := order_zip given vals nd hl k hk ids fun j hj => h j (List.mem_cons_of_mem _ hj)
    unfold order at ih ⊢
    rw [List.filterMap_cons, List.filterMap_cons, e1, e2]
    dsimp only
    rw [List.filterMap_cons, hk i _ _ e1 e2]
    exact congrArg ((given[i], vals[i]) :: ·) ih
theorem bind_order (fd : FuncData) (ps ks : List Str) (ids : List Nat) (us ws : List Value) (h1 : fd.params.posonlyargs = []) (h2 : fd.params.args.map (·.arg) = ps) (h3 : fd.params.vararg = none) (h4 : fd.params.kwonlyargs = []) (h5 : fd.params.kwarg = none)
    (h6 : fd.defaults = .none) (hps : ps.Nodup) (ho : orderOk ps us.length ks ids = true) (hw : ws.length = ks.length) : bindArgs fd ⟨us, ks.zip ws⟩ = pure (ps.zip (order ids (us ++ ws))) := by
  unfold orderOk at ho
  simp only [Bool.and_eq_true, decide_eq_true_eq] at ho
  obtain ⟨⟨⟨⟨⟨o1, o2⟩, o3⟩, o4⟩, o5⟩, o6⟩ := ho
  have lg : (ps.take us.length ++ ks).length = ps.length := by rw [List.length_append, List.length_take]; omega
  have lv : (ps.take us.length ++ ks).length = (us ++ ws).length := by rw [lg, List.length_append]; omega
  have ez : ps.zip us ++ ks.zip ws = (ps.take us.length ++ ks).zip (us ++ ws) := by
    rw [zip_take ps us, List.zip_append (by rw [List.length_take]; omega)]
  have hkw : (ks.zip ws).map (·.1) = ks := by
    have := List.map_fst_zip (l₁ := ks) (l₂ := ws) (by omega)
    exact this
  have hk : ∀ (i : Nat) (x : Str) (v : Value), (ps.take us.length ++ ks)[i]? = some x → (us ++ ws)[i]? = some v → (ps.zip us ++ ks.zip ws).lookup x = some v := fun i x v e1 e2 => by
    rw [ez]
    exact zip_lookup _ _ i x v o2 e1 e2
  have inG : ∀ x ∈ ps, ∃ i, (ps.take us.length ++ ks)[i]? = some x := fun x hx => by
    rw [← o4] at hx
    obtain ⟨i, _, e⟩ := List.mem_filterMap.mp hx
    exact ⟨i, e⟩
  rw [bind_plain fd ps us (ks.zip ws) h1 h2 h3 h4 h5 h6 (by omega) (fun q hq => ?_) (by rw [hkw]; exact (List.nodup_append.mp o2).2.1) (fun q hq z => ?_) fun p hp => ?_]
  · have := order_zip _ _ o2 lv (fun x => (ps.zip us ++ ks.zip ws).lookup x) hk ids (fun i hi => by rw [lg]; exact o5 i hi)
    rw [o4] at this
    rw [this]
  · have q1 : q.1 ∈ ks := by rw [← hkw]; exact List.mem_map.mpr ⟨q, hq, rfl⟩
    exact o6 _ q1
  · have q1 : q.1 ∈ ks := by rw [← hkw]; exact List.mem_map.mpr ⟨q, hq, rfl⟩
    rw [zip_take ps us, List.map_fst_zip (by rw [List.length_take]; omega)] at z
    exact (List.nodup_append.mp o2).2.2 _ z _ q1 rfl
  · obtain ⟨i, e⟩ := inG p hp
    have hi := (List.getElem?_eq_some_iff.mp e).1
    rw [hk i p _ e (List.getElem?_eq_getElem (lv ▸ hi))]
    rfl
end TP
end

section
set_option linter.all false
set_option maxRecDepth 100000
/-! Own defs called. -/
namespace TP
open PySem L2 PySem.Spec PyProof.Rows
/-! ### a def's promise, where no guard stands around -/
structure FnG (P : Program) (w : World) (K : Frag) (mg : Str → Option Value) (base : Heap) (CX : CXT) (k : Nat) (f : Addr) (fd : FuncData) (ps : List Str) (sp : Sp) : Prop where
  len : ∀ vs H Q E, sp vs H Q E → vs.length = ps.length
  run : ∀ (A : Around) (outer : List Env) (s : Shared) (H : Hp) (args : Args) (us : List Value) (vs : List V) (Q : VK) (E : XK), Room k A → A.guards = some [] → Env0 P w K mg base A outer s H → BindsTo s fd args (ps.zip us) → Vals vs us → sp vs H Q E →
    codeAny (model P w) A (.call (.ref f) args) (CR CX outer P w H s Q E) s
theorem FnG.of {P : Program} {w : World} {K : Frag} {mg : Str → Option Value} {base : Heap} {CX : CXT} {k : Nat} {f : Addr} {fd : FuncData} {ps : List Str} {sp : Sp} (F : FnOk P w K mg base CX k f fd ps sp) : FnG P w K mg base CX k f fd ps sp :=
  ⟨F.len, fun A outer s H args us vs Q E hr _ he hb hv hs => F.run A outer s H args us vs Q E hr he hb hv hs⟩
theorem FnG.mono {P : Program} {w : World} {K : Frag} {mg : Str → Option Value} {base : Heap} {CX : CXT} {j k : Nat} {f : Addr} {fd : FuncData} {ps : List Str} {sp : Sp} (F : FnG P w K mg base CX j f fd ps sp) (h : j ≤ k) : FnG P w K mg base CX k f fd ps sp :=
  ⟨F.len, fun A outer s H args us vs Q E hr => F.run A outer s H args us vs Q E (hr.mono h)⟩
theorem run_fnG {X : Cx} {CX : CXT} {k : Nat} {f : Addr} {fd : FuncData} {ps : List Str} {sp : Sp} {E : XK} {pins : List (Addr × Obj)} {σ : LS} {H : Hp} {s : Shared} {Q : VK} {us ws : List Value} {kw : List (Str × Value)} {vs : List V}
    (F : FnG X.prog X.w X.K X.mg X.base CX k f fd ps sp) (hr : Room k X.A) (hg : X.A.guards = some []) (hx : Passes CX X E) (I : Inv X pins σ H s) (hb : BindsTo s fd ⟨us, kw⟩ (ps.zip ws)) (r : Vals vs ws) (h : sp vs H Q E) :
    wpAny (model X.prog X.w) X.A (PySem.call (.ref f) us kw) (EP X pins σ Q) X.xe s := by
  refine wpAny_call (codeAny_mono (F.run X.A X.stack s H ⟨us, kw⟩ ws vs Q E hr hg I.env0 hb r h) fun r s' hq => ?_)
  match r, hq with
  | .error e, hq => exact hx pins σ H s e s' I hq
  | .ok (.ret u), hq => exact I.after hq
  | .ok .next, hq => exact hq.elim
  | .ok .brk, hq => exact hq.elim
  | .ok .cont, hq => exact hq.elim
/-! ### plain arguments -/
def plainE : Expr → Bool
  | .Starred .. => false
  | _ => true
theorem star_cons {e : Expr} {es : List Expr} {env : Env} (h : plainE e = true) : starEach (e :: es) env = (false, eval e env) :: starEach es env := by
  cases e <;> first | rfl | cases h
theorem star_any {pos : Pos} {env : Env} : ∀ {es : List Expr}, es.all plainE = true → (backTo pos (starEach es env)).any (·.1) = false
  | [], _ => rfl
  | e :: es, h => by
    obtain ⟨h1, h2⟩ := Bool.and_eq_true_iff.mp (by simpa only [List.all_cons] using h)
    rw [star_cons h1]
    show (false || (backTo pos (starEach es env)).any (·.1)) = false
    rw [star_any h2]
    rfl
def kwNames : List Keyword → Option (List Str)
  | [] => some []
  | ⟨some x, _, _⟩ :: r => (kwNames r).map (x :: ·)
  | ⟨none, _, _⟩ :: _ => none
theorem kw_facts {pos : Pos} {env : Env} : ∀ {kws : List Keyword} {ks : List Str}, kwNames kws = some ks →
    (backToKw pos (keywordEach kws env)).all (·.1.isSome) = true ∧ (backToKw pos (keywordEach kws env)).filterMap (·.1) = ks ∧ (backToKw pos (keywordEach kws env)).any (·.1.isNone) = false
  | [], ks, h => by
    have e : [] = ks := Option.some.inj h
    subst e
    exact ⟨rfl, rfl, rfl⟩
  | ⟨some x, e, p⟩ :: r, ks, h => by
    obtain ⟨js, e1, e2⟩ := map_opt (show (kwNames r).map (x :: ·) = some ks from h)
    subst e2
    obtain ⟨h1, h2, h3⟩ := kw_facts (pos := pos) (env := env) e1
    refine ⟨?_, ?_, ?_⟩
    · show (true && (backToKw pos (keywordEach r env)).all (·.1.isSome)) = true
      rw [h1]
      rfl
    · show x :: (backToKw pos (keywordEach r env)).filterMap (·.1) = x :: js
      rw [h2]
    · show (false || (backToKw pos (keywordEach r env)).any (·.1.isNone)) = false
      rw [h3]
      rfl
  | ⟨none, _, _⟩ :: _, _, h => by cases h
section
variable {X : Cx} {CX : CXT} {k : Nat} {f : Addr} {fd : FuncData} {ps ks : List Str} {ids : List Nat} {sp : Sp} {E : XK} {x : Str} {p pos : Pos} {es : List Expr} {kws : List Keyword} {t u : TA}
/-- a plain def: its parameters alone -/
structure PlainFd (fd : FuncData) (ps : List Str) : Prop where
  h1 : fd.params.posonlyargs = []
  h2 : fd.params.args.map (·.arg) = ps
  h3 : fd.params.vararg = none
  h4 : fd.params.kwonlyargs = []
  h5 : fd.params.kwarg = none
  h6 : fd.defaults = .none
  nd : ps.Nodup
theorem order_vals {vs : List V} {us : List Value} (r : Vals vs us) : ∀ ids : List Nat, Vals (order ids vs) (order ids us)
  | [] => .nil
  | i :: ids => by
    have ih := order_vals r ids
    unfold order at ih ⊢
    rw [List.filterMap_cons, List.filterMap_cons]
    cases e : vs[i]? with
    | none =>
      have e2 : us[i]? = none := by
        rw [List.getElem?_eq_none_iff] at e ⊢
        rw [← r.length]
        exact e
      rw [e2]
      exact ih
    | some v =>
      obtain ⟨w, e2, rv⟩ := r.get e
      rw [e2]
      exact .cons rv ih
def tCallG (sp : Sp) (ids : List Nat) (n m : Nat) (E : XK) (t u : TA) : TE := fun σ H Q => t σ H fun vs H1 => u σ H1 fun zs H2 => vs.length = n ∧ zs.length = m ∧ sp (order ids (vs ++ zs)) H2 Q E
theorem call_fin {pins : List (Addr × Obj)} {σ : LS} {Q : VK} {n : Nat} (F : FnG X.prog X.w X.K X.mg X.base CX k f fd ps sp) (pf : PlainFd fd ps) (hr : Room k X.A) (hgd : X.A.guards = some []) (hx : Passes CX X E) (ho : orderOk ps n ks ids = true)
    {us ws : List Value} {vs zs : List V} {H2 : Hp} {s2 : Shared} (I2 : Inv X pins σ H2 s2) (r1 : Vals vs us) (r2 : Vals zs ws) (l1 : vs.length = n) (l2 : zs.length = ks.length) (h2 : sp (order ids (vs ++ zs)) H2 Q E) :
    X.K.In s2.heap ∧ wpAny (model X.prog X.w) X.A (PySem.call (.ref f) us (ks.zip ws)) (EP X pins σ Q) X.xe s2 := by
  refine ⟨I2.kIn, run_fnG F hr hgd hx I2 (ws := order ids (us ++ ws)) ?_ (order_vals (r1.append r2) ids) h2⟩
  exact .of_eq (bind_order fd ps ks ids us ws pf.h1 pf.h2 pf.h3 pf.h4 pf.h5 pf.h6 pf.nd (by rw [← r1.length, l1]; exact ho) (by rw [← r2.length, l2]))
/-- f(e, .., k = v, ..) -/
theorem pe_callG {e : Expr} (F : FnG X.prog X.w X.K X.mg X.base CX k f fd ps sp) (pf : PlainFd fd ps) (hr : Room k X.A) (hgd : X.A.guards = some []) (hg : Gl X x) (hm : X.mg x = some (.ref f)) (hk : PySem.W.keepIn X.K (.ref f) = true) (hx : Passes CX X E)
    (ho : orderOk ps (e :: es).length ks ids = true) (hpl : (e :: es).all plainE = true) (hks : kwNames kws = some ks) (ha : PA X (e :: es) t) (hkw : PK X kws u) (hdb : (x == ("__debug__" : Str)) = false) :
    PE X (.Call (.Name x p) (e :: es) kws pos) (tCallG sp ids (e :: es).length ks.length E t u) := by
  refine ⟨fun pins s σ H Q I h => ?_⟩
  obtain ⟨k1, k2, k3⟩ := kw_facts (pos := pos) (env := X.env) hks
  refine wpAny_Call_Name_kw (ld_glob I hg hm ?_ hdb)
  obtain ⟨p1, p2⟩ := Bool.and_eq_true_iff.mp (by simpa only [List.all_cons] using hpl)
  refine PySem.W.callWith_KW (h₀ := X.base) I.ok.mod.kin hk k1 (thn (ha.run pos pins s σ H _ I h) fun us s1 ⟨vs, H1, I1, r, q⟩ => ?_) (by rw [star_any hpl, k3]; rfl) (star_cons p1)
  refine thn (hkw.run pos pins s1 σ H1 _ I1 q) fun ws s2 ⟨zs, H2, I2, rz, l1, l2, q2⟩ => ?_
  rw [k2]
  exact call_fin F pf hr hgd hx ho I2 r rz l1 l2 q2
/-- f(k = v, ..) -/
theorem pe_callG0 (F : FnG X.prog X.w X.K X.mg X.base CX k f fd ps sp) (pf : PlainFd fd ps) (hr : Room k X.A) (hgd : X.A.guards = some []) (hg : Gl X x) (hm : X.mg x = some (.ref f)) (hk : PySem.W.keepIn X.K (.ref f) = true) (hx : Passes CX X E)
    (ho : orderOk ps 0 ks ids = true) (hks : kwNames kws = some ks) (hkw : PK X kws u) (hdb : (x == ("__debug__" : Str)) = false) :
    PE X (.Call (.Name x p) [] kws pos) (tCallG sp ids 0 ks.length E tNil u) := by
  refine ⟨fun pins s σ H Q I h => ?_⟩
  obtain ⟨k1, k2, k3⟩ := kw_facts (pos := pos) (env := X.env) hks
  refine wpAny_Call_Name_kw (ld_glob I hg hm ?_ hdb)
  refine PySem.W.callWith_KW0 (h₀ := X.base) I.ok.mod.kin hk k1 ?_ (by rw [k3]; rfl)
  refine thn (hkw.run pos pins s σ H _ I h) fun ws s2 ⟨zs, H2, I2, rz, l1, l2, q2⟩ => ?_
  rw [k2]
  exact call_fin F pf hr hgd hx ho I2 .nil rz l1 l2 q2
end
/-! ### by values -/
theorem AR.mono {K : Frag} {F F' : Hp} {dk dk' : List (Addr × Addr)} {v : V} {x : Vl} (sf : Same F F') (sd : ∀ p ∈ dk, p ∈ dk') (h : AR K F dk v x) : AR K F' dk' v x := by
  cases x with
  | d x => exact Dv.mono sf _ _ h
  | own xs => exact h.elim
  | deck => obtain ⟨a, b, e, m⟩ := h; exact ⟨a, b, e, sd _ m⟩
  | scr ns => obtain ⟨a, e, m⟩ := h; exact ⟨a, e, sf.seq m⟩
theorem ARL.mono {K : Frag} {F F' : Hp} {dk dk' : List (Addr × Addr)} (sf : Same F F') (sd : ∀ p ∈ dk, p ∈ dk') : ∀ {vs : List V} {xs : List Vl}, ARL K F dk vs xs → ARL K F' dk' vs xs
  | [], [], _ => trivial
  | [], _ :: _, h => h.elim
  | _ :: _, [], h => h.elim
  | v :: vs, x :: xs, h => ⟨h.1.mono sf sd, ARL.mono sf sd h.2⟩
theorem ARL.length {K : Frag} {F : Hp} {dk : List (Addr × Addr)} : ∀ {vs : List V} {xs : List Vl}, ARL K F dk vs xs → vs.length = xs.length
  | [], [], _ => rfl
  | [], _ :: _, h => h.elim
  | _ :: _, [], h => h.elim
  | v :: vs, x :: xs, h => congrArg Nat.succ (ARL.length h.2)
theorem ARL.append {K : Frag} {F : Hp} {dk : List (Addr × Addr)} : ∀ {vs ws : List V} {xs ys : List Vl}, ARL K F dk vs xs → ARL K F dk ws ys → ARL K F dk (vs ++ ws) (xs ++ ys)
  | [], _, [], _, _, g => g
  | [], _, _ :: _, _, h, _ => h.elim
  | _ :: _, _, [], _, h, _ => h.elim
  | v :: vs, ws, x :: xs, ys, h, g => ⟨h.1, ARL.append h.2 g⟩
theorem ARL.get {K : Frag} {F : Hp} {dk : List (Addr × Addr)} : ∀ {vs : List V} {xs : List Vl} (i : Nat), ARL K F dk vs xs → (vs[i]? = none ∧ xs[i]? = none) ∨ ∃ v x, vs[i]? = some v ∧ xs[i]? = some x ∧ AR K F dk v x
  | [], [], _, _ => .inl ⟨by simp, by simp⟩
  | [], _ :: _, _, h => h.elim
  | _ :: _, [], _, h => h.elim
  | v :: vs, x :: xs, 0, h => .inr ⟨v, x, rfl, rfl, h.1⟩
  | v :: vs, x :: xs, i + 1, h => by simpa using ARL.get i h.2
theorem ARL.order {K : Frag} {F : Hp} {dk : List (Addr × Addr)} {vs : List V} {xs : List Vl} (h : ARL K F dk vs xs) : ∀ ids : List Nat, ARL K F dk (TP.order ids vs) (TP.order ids xs)
  | [] => trivial
  | i :: ids => by
    have ih := ARL.order h ids
    unfold TP.order at ih ⊢
    rw [List.filterMap_cons, List.filterMap_cons]
    rcases h.get i with ⟨e1, e2⟩ | ⟨v, x, e1, e2, r⟩
    · rw [e1, e2]
      exact ih
    · rw [e1, e2]
      exact ⟨r, ih⟩
/-- a value that becomes an argument -/
theorem Rel1.toArg {C : Ct} {F H : Hp} {dk : List (Addr × Addr)} {σ : LS} {s : S} {v : V} {x : Vl} (r : Rel1 C F H dk σ s v x) : ∃ F', Same F F' ∧ Rel C F' H dk σ s ∧ AR C.K F' dk v x.arg := by
  cases x with
  | d x =>
    obtain ⟨fp, h⟩ := r.head
    cases h with
    | d h => exact ⟨F, Same.refl F, r.tail, h⟩
  | own xs => exact r.freeze
  | deck =>
    obtain ⟨fp, h⟩ := r.head
    cases h with
    | deck h => exact ⟨F, Same.refl F, r.tail, _, _, rfl, h⟩
  | scr ns =>
    obtain ⟨fp, h⟩ := r.head
    cases h with
    | scr h => exact ⟨F, Same.refl F, r.tail, _, rfl, h⟩
/-- the promise of a def that does as the tree says -/
def spOf (Y : Fx) (np : Nat) (m : List Vl → M Vl) : Sp := fun vs H Q E => ∃ (C : Ct) (F : Hp) (dk : List (Addr × Addr)) (xs : List Vl), C.toFx = Y ∧ C.E = E ∧ Wd C F H dk ∧ ARL C.K F dk vs xs ∧ xs.length = np ∧
  (m xs).All (fun r => ∀ F' H' dk' v, Rel1 C F' H' dk' [] [] v r → Q v H') (RPost C)
theorem spOf_len {Y : Fx} {np : Nat} {m : List Vl → M Vl} : ∀ vs H Q E, spOf Y np m vs H Q E → vs.length = np := fun vs H Q E ⟨C, F, dk, xs, _, _, _, h, hl, _⟩ => by rw [h.length, hl]
section
variable {Y : Fx} {E : XK} {X : Cx} {e : Expr} {es : List Expr} {kws : List Keyword} {pos : Pos}
theorem so_nilA : PA X [] (tAs Y E fun s => .ret ([], s)) := pa_imp pa_nil fun σ H Q ⟨C, F, dk, s, hY, hE, r, q⟩ => q F H dk [] r trivial
theorem as_step {f : S → M (Vl × S)} {g : S → M (List Vl × S)} {σ : LS} {H : Hp} {Q : List V → Hp → Prop} (q : tAs Y E (fun s => (f s).bind fun r => (g r.2).bind fun q => .ret (r.1.arg :: q.1, q.2)) σ H Q) : tCons (tV Y E f) (tAs Y E g) σ H Q := by
  obtain ⟨C, F, dk, s, hY, hE, r, q⟩ := q
  refine ⟨C, F, dk, s, hY, hE, r, ((M.all_bind _).mp q).mono (fun p hp F1 H1 d1 v r1 => ?_) fun _ _ z => z⟩
  obtain ⟨F2, sf, r2, ar⟩ := r1.toArg
  refine ⟨C.now F2 d1, F2, d1, p.2, hY, hE, r2.now, ((M.all_bind _).mp hp).mono (fun p2 hp2 F3 H3 d3 vs r3 h3 => ?_) fun c z hz => hz.now r2.w⟩
  exact hp2 F3 H3 d3 (v :: vs) (r3.unnow r2.w) ⟨ar.mono r3.w.ff r3.w.dd, h3⟩
theorem so_consA {f : S → M (Vl × S)} {g : S → M (List Vl × S)} (ha : PE X e (tV Y E f)) (hb : PA X es (tAs Y E g)) (hs : plainE e = true) :
    PA X (e :: es) (tAs Y E fun s => (f s).bind fun r => (g r.2).bind fun q => .ret (r.1.arg :: q.1, q.2)) :=
  pa_imp (pa_cons ha hb (star_cons hs)) fun σ H Q q => as_step q
theorem pk_imp {t t' : TA} (h : PK X kws t) (w : ∀ σ H Q, t' σ H Q → t σ H Q) : PK X kws t' := ⟨fun pos pins s σ H Q I q => h.run pos pins s σ H Q I (w σ H Q q)⟩
theorem so_nilK : PK X [] (tAs Y E fun s => .ret ([], s)) := pk_imp pk_nil fun σ H Q ⟨C, F, dk, s, hY, hE, r, q⟩ => q F H dk [] r trivial
theorem so_consK {f : S → M (Vl × S)} {g : S → M (List Vl × S)} {nm : Option Str} {kp : Pos} (ha : PE X e (tV Y E f)) (hb : PK X kws (tAs Y E g)) :
    PK X (⟨nm, e, kp⟩ :: kws) (tAs Y E fun s => (f s).bind fun r => (g r.2).bind fun q => .ret (r.1.arg :: q.1, q.2)) :=
  pk_imp (pk_cons ha hb) fun σ H Q q => as_step q
/-- the arguments of a run have their number -/
def HasLen {α : Type} (n : Nat) (f : S → M (List α × S)) : Prop := ∀ s P R, (f s).All P R → (f s).All (fun r => P r ∧ r.1.length = n) R
theorem call_rd {np : Nat} {m : List Vl → M Vl} {f g : S → M (List Vl × S)} {ids : List Nat} {n l : Nat} {σ : LS} {H : Hp} {Q : VK} (hf : HasLen n f) (hg : HasLen l g) (hn : ids.length = np) (hi : ∀ i ∈ ids, i < n + l)
    (q : tV Y E (fun s => (f s).bind fun r => (g r.2).bind fun q => (m (order ids (r.1 ++ q.1))).bind fun v => .ret (v, q.2)) σ H Q) : tCallG (spOf Y np m) ids n l E (tAs Y E f) (tAs Y E g) σ H Q := by
  obtain ⟨C, F, dk, s, hY, hE, r, q⟩ := q
  refine ⟨C, F, dk, s, hY, hE, r, (hf _ _ _ ((M.all_bind _).mp q)).mono (fun p ⟨hp, hl⟩ F1 H1 d1 vs r1 h1 => ?_) fun _ _ z => z⟩
  refine ⟨C.now F1 d1, F1, d1, p.2, hY, hE, r1.now, (hg _ _ _ ((M.all_bind _).mp hp)).mono (fun p2 ⟨hp2, hl2⟩ F2 H2 d2 zs r2 h2 => ?_) fun c z hz => hz.now r1.w⟩
  have r2' := r2.unnow r1.w
  have hh : ARL C.K F2 d2 (vs ++ zs) (p.1 ++ p2.1) := ARL.append (h1.mono r2.w.ff r2.w.dd) h2
  refine ⟨by rw [h1.length, hl], by rw [ARL.length h2, hl2], C.deep F2 H2 d2, F2, d2, order ids (p.1 ++ p2.1), hY, hE, r2'.w.deep, hh.order ids, ?_, ?_⟩
  · rw [order_len (by rw [List.length_append, hl, hl2]; exact hi), hn]
  · exact ((M.all_bind _).mp hp2).mono (fun v hv F3 H3 d3 z r3 => hv F3 H3 d3 z (r2'.frame1 r3)) fun c x hx => hx.deep r2'.w
theorem call_rd0 {np : Nat} {m : List Vl → M Vl} {g : S → M (List Vl × S)} {ids : List Nat} {l : Nat} {σ : LS} {H : Hp} {Q : VK} (hg : HasLen l g) (hn : ids.length = np) (hi : ∀ i ∈ ids, i < l)
    (q : tV Y E (fun s => (g s).bind fun q => (m (order ids q.1)).bind fun v => .ret (v, q.2)) σ H Q) : tCallG (spOf Y np m) ids 0 l E tNil (tAs Y E g) σ H Q := by
  obtain ⟨C, F, dk, s, hY, hE, r, q⟩ := q
  refine ⟨C, F, dk, s, hY, hE, r, (hg _ _ _ ((M.all_bind _).mp q)).mono (fun p2 ⟨hp2, hl2⟩ F2 H2 d2 zs r2 h2 => ?_) fun _ _ z => z⟩
  refine ⟨rfl, by rw [ARL.length h2, hl2], C.deep F2 H2 d2, F2, d2, order ids p2.1, hY, hE, r2.w.deep, h2.order ids, ?_, ?_⟩
  · rw [order_len (by rw [hl2]; exact hi), hn]
  · exact ((M.all_bind _).mp hp2).mono (fun v hv F3 H3 d3 z r3 => hv F3 H3 d3 z (r2.frame1 r3)) fun c x hx => hx.deep r2.w
end
end TP
end

section
set_option linter.all false
set_option maxRecDepth 100000
/-! Walks: lists and tuples, alone, counted, side by side. -/
namespace TP
open PySem L2 PySem.Spec PyProof.Rows
/-- a list (true) or a tuple (false) -/
def SqB (K : Frag) (H : Hp) (b : Bool) (a : Addr) (xs : List V) : Prop := match b with
  | true => SqL K H a xs
  | false => SqT K H a xs
def ItB (b : Bool) (h : Heap) (it a : Addr) (i : Nat) : Prop := match b with
  | true => h.IsListIter it a i
  | false => h.IsTupleIter it a i
def LiB (b : Bool) (h : Heap) (a : Addr) (its : Array Value) : Prop := match b with
  | true => h.IsList a its
  | false => h.IsTuple a its
def obB (b : Bool) (a : Addr) : Obj := match b with
  | true => { cls := .type "list_iterator", data := .fields #[.ref a, .int 0 0] }
  | false => { cls := .type "tuple_iterator", data := .fields #[.ref a, .int 0 0] }
theorem begB (b : Bool) (a : Addr) (its : Array Value) : Begins (.ref a) (obB b a) fun h => LiB b h a its := by
  cases b with
  | true => exact begins_list a its
  | false => exact begins_tuple a its
theorem drB {prog : Program} {w : World} {A : Around} (b : Bool) (hh : A.handled = none) (it a : Addr) (hne : a ≠ it) (its : Array Value) :
    Draws prog w A it [it, a] its.size (fun i v => its[i]? = some v) (fun i h => ItB b h it a i ∧ LiB b h a its) := by
  cases b with
  | true => exact Draws.list hh it a hne its
  | false => exact Draws.tuple hh it a hne its
theorem itB0 {b : Bool} {h : Heap} {it a : Addr} (e : h.get? it = some (obB b a)) : ItB b h it a 0 := by
  cases b with
  | true => exact ⟨_, e, rfl, rfl⟩
  | false => exact ⟨_, e, rfl, rfl⟩
theorem ItB.at {b : Bool} {h h' : Heap} {it a : Addr} {i : Nat} (x : ItB b h it a i) (k : ∀ o, h.get? it = some o → h'.get? it = some o) : ItB b h' it a i := by
  cases b with
  | true => exact Heap.IsListIter.at x fun o e => k o e
  | false => exact Heap.IsTupleIter.at x fun o e => k o e
theorem ItB.obj {b : Bool} {h : Heap} {it a : Addr} {i : Nat} (x : ItB b h it a i) : ∃ o, h.get? it = some o ∧ ∀ v, o.data ≠ .cell v := by
  cases b with
  | true =>
    obtain ⟨o, e, c, d⟩ := (show h.IsListIter it a i from x)
    exact ⟨o, e, fun v z => by rw [d] at z; cases z⟩
  | false =>
    obtain ⟨o, e, c, d⟩ := (show h.IsTupleIter it a i from x)
    exact ⟨o, e, fun v z => by rw [d] at z; cases z⟩
theorem LiB.lt {b : Bool} {h : Heap} {a : Addr} {its : Array Value} (x : LiB b h a its) : a < h.objs.size := by
  cases b with
  | true =>
    obtain ⟨o, e, _⟩ := (show h.IsList a its from x)
    exact Heap.lt_size e
  | false =>
    obtain ⟨o, e, _⟩ := (show h.IsTuple a its from x)
    exact Heap.lt_size e
section
variable {X : Cx} {pins : List (Addr × Obj)} {σ : LS} {H : Hp} {s : Shared} {b : Bool} {a : Addr} {xs ys : List V}
theorem seqB (I : Inv X pins σ H s) (h : SqB X.K H b a xs) : ∃ its : List Value, Vals xs its ∧ LiB b s.heap a its.toArray ∧ xs.length ≤ sizeLine := by
  cases b with
  | true =>
    obtain ⟨its, r, p, z⟩ := I.list h
    exact ⟨its, r, p.isList, z⟩
  | false =>
    obtain ⟨its, r, p, z⟩ := I.tuple h
    exact ⟨its, r, (show s.heap.IsTuple a its.toArray from p), z⟩
theorem seqB_inj (I : Inv X pins σ H s) (h : SqB X.K H b a xs) (h' : SqB X.K H b a ys) : xs = ys := by
  cases b with
  | true => exact I.list_inj h h'
  | false => exact I.tuple_inj h h'
end
/-! ### enumerate -/
def IteB (K : Frag) (b : Bool) (a : Addr) : L2.It :=
  ⟨fun i H => ∃ (xs : List V) (x : V), SqB K H b a xs ∧ xs[i]? = some x, fun i H v H' => ∃ T x, v = .ref T ∧ H T = none ∧ H' = upd H T (.tup [.int (i : Nat), x]) ∧ ∀ xs, SqB K H b a xs → xs[i]? = some x, fun i H => ∃ xs : List V, SqB K H b a xs ∧ xs.length = i⟩
theorem turn_enumB {P : Program} {w : World} {K : Frag} {elts : List Expr} {kk : Nat} {tpos : Pos} (b : Bool) (a e it : Addr) (hea : e ≠ a) (hia : a ≠ it) :
    Turn P w K (.Tuple elts kk tpos) (IteB K b a) [e, it] e (fun i h => (∃ old, IsEnum h e it ((i : Nat) : Int) old) ∧ ItB b h it a i ∧ e ≠ it) where
  mem := by simp
  obj := fun i h st c hc => by
    obtain ⟨⟨old, he⟩, hit, _⟩ := st
    have e' : c = e ∨ c = it := by simpa using hc
    rcases e' with z | z
    · rw [z]; exact ⟨_, he, fun v q => nomatch q⟩
    · rw [z]; exact hit.obj
  keep := fun i h h' st k => let ⟨⟨old, he⟩, hi, hne⟩ := st; ⟨⟨old, k e (by simp) _ he⟩, hi.at fun o q => k it (by simp) o q, hne⟩
  item := by
    intro X hP hw hK hc i pins s σ H E I hf st hg
    subst hP hw hK
    obtain ⟨⟨old, he⟩, hit, hne⟩ := st
    obtain ⟨xs, x, hq, hx⟩ := hg
    obtain ⟨its, rv, p, hz⟩ := seqB I hq
    obtain ⟨u, hu, ru⟩ := rv.get hx
    have hel : e < s.heap.objs.size := Heap.lt_size he
    have hil : it < s.heap.objs.size := by obtain ⟨_, q, _⟩ := hit.obj; exact Heap.lt_size q
    have hlt : i < its.toArray.size := by rw [List.size_toArray]; exact (List.getElem?_eq_some_iff.mp hu).1
    refine wpAny_pyNext_enum_itemD (drB b (by show X.A.in1.handled = none; exact I.ok.hd hc) it a hia its.toArray) he ⟨hit, p⟩ hlt hne (by simp [hne, hea]) fun x' h' tk hPx ho hit' hT hsz hk => ?_
    have ex : x' = u := by
      have h1 : its[i]? = some x' := by simpa using hPx
      rw [hu] at h1
      exact (Option.some.inj h1).symm
    subst ex
    refine ⟨_, rfl, wpAny_letOwnedTupleGo_enum (s := { s with heap := h', toks := tk + 1 }) ho fun h'' he' sb => ?_⟩
    have hT2 : h''.get? s.heap.objs.size = some { cls := .type "tuple", data := .seq #[.int i tk, x'] } := (sb.2 _ (Nat.ne_of_gt hel)).trans hT
    have new : ObjOk X.prog X.w (upd H s.heap.objs.size (.tup [.int (i : Nat), x])) h'' s.heap.objs.size (.tup [.int (i : Nat), x]) :=
      ⟨by show 2 ≤ sizeLine; decide, [.int i tk, x'], .cons ⟨_, rfl⟩ (.cons ru .nil), ⟨_, hT2, rfl, _, rfl⟩⟩
    have I1 : Inv X pins σ (upd H s.heap.objs.size (.tup [.int (i : Nat), x])) { s with heap := h'', toks := tk + 1 } :=
      I.turnedNew (ch := [e, it]) (fun c ob hb q => (sb.2 c (fun z => hb (by simp [z]))).trans (hk c ob (fun z => hb (by simp [z])) (fun z => hb (by simp [z])) q)) hf (Nat.le_refl _) new
    refine ⟨.ref s.heap.objs.size, _, I1, rfl, ⟨_, x, rfl, I.hok.fresh (Nat.le_refl _), rfl, fun ys hy => by rw [seqB_inj I hy hq]; exact hx⟩, ⟨⟨x', ?_⟩, hit'.1.at fun o q => (sb.2 it (Ne.symm hne)).trans q, hne⟩, fun c hb => ?_⟩
    · have e1 : ((i + 1 : Nat) : Int) = (i : Int) + 1 := by omega
      rw [e1]; exact he'
    · have hb' : c < s.heap.objs.size := by
        have e' : c = e ∨ c = it := by simpa using hb
        rcases e' with z | z
        · rw [z]; exact hel
        · rw [z]; exact hil
      rw [upd_ne (Nat.ne_of_lt hb')]
      exact (hf c hb).1
  done := by
    intro X hP hw hK hc i pins s σ H E I hf st hg
    subst hP hw hK
    obtain ⟨⟨old, he⟩, hit, hne⟩ := st
    obtain ⟨xs, hq, hx⟩ := hg
    obtain ⟨its, rv, p, hz⟩ := seqB I hq
    obtain ⟨f0, f1, f2, f3, f4, f5⟩ := hf it (by simp)
    have hl : i = its.toArray.size := by rw [List.size_toArray, ← rv.length, hx]
    refine wpAny_pyNext_enum_endD (drB b (by show X.A.in1.handled = none; exact I.ok.hd hc) it a hia its.toArray) he ⟨by rw [← hl]; exact hit, p⟩ fun h' eb => ⟨rfl, I.turned (t' := s.toks) (fun c o hb q => eb c o hb q) f0 f1 f3 f4 f5⟩
  self := fun A i s Q E st h => let ⟨⟨_, he⟩, _⟩ := st; wpAny_pyIter_enum he h
set_option maxHeartbeats 1000000 in
theorem meets_enumB {v : Value} {o : Obj} {H : Heap → Prop} (B : Begins v o H) :
    Meets (Builtin.«enumerate.__new__» ⟨[.type "enumerate", v], []⟩) (fun _ R s => H s.heap ∧
      R (.ok (.ret (.ref (s.heap.push o).objs.size))) { s with heap := (s.heap.push o).push { cls := .type "enumerate", data := .fields #[.none, .bool false, .ref s.heap.objs.size, rawInt 0, .none, .none] } }) :=
  .of_wp fun prog w A R s h => by
    obtain ⟨hp, g, d, tk, os⟩ := s; obtain ⟨h1, h⟩ := h
    have hsub := sub_enumerate
    have q1 : ∀ {A' : Around} {E : Value → Shared → Prop} {Q : Value → Shared → Prop}, Q (.ref hp.objs.size) ⟨hp.push o, g, d, tk, os⟩ → wpAny (model prog w) A' (pyIter v) Q E ⟨hp, g, d, tk, os⟩ :=
      fun q => B.iter prog w _ _ ⟨hp, g, d, tk, os⟩ _ h1 q
    wp_walk using q1
    refine wpAny_stack_any fun st => wpAny_pure ?_
    split
    · rename_i c _ _ _ _ _
      cases (c == Value.type "enumerate")
      · wp_walk using q1
        exact ⟨_, rfl, h⟩
      · wp_walk using q1
        exact ⟨_, rfl, h⟩
    · wp_walk using q1
      exact ⟨_, rfl, h⟩
theorem call_enumB {prog : Program} {w : World} {A : Around} {E : Value → Shared → Prop} {s : Shared} {v : Value} {o : Obj} {H : Heap → Prop} {Q : Value → Shared → Prop} (B : Begins v o H) (h1 : H s.heap)
    (h : ∀ h', IsEnum h' (s.heap.objs.size + 1) s.heap.objs.size 0 .none → h'.get? s.heap.objs.size = some o → (∀ b o, s.heap.get? b = some o → h'.get? b = some o) → Q (.ref (s.heap.objs.size + 1)) { s with heap := h' }) :
    wpAny (model prog w) A (PySem.call (.type "enumerate") [v]) Q E s := by
  refine callType_new F.called_enumerate (by decide) (F.typeCall_enumerate_1 _) (F.newCall_enumerate_1 _) (fun obj => F.args_object_init_2 obj _) F.entry_enumerate_new (meets_enumB B) ⟨h1, ?_⟩
  have hz : (s.heap.push o).objs.size = s.heap.objs.size + 1 := Heap.size_push ..
  show _ ∧ _
  rw [hz]
  have he : IsEnum ((s.heap.push o).push { cls := .type "enumerate", data := .fields #[.none, .bool false, .ref s.heap.objs.size, rawInt 0, .none, .none] }) (s.heap.objs.size + 1) s.heap.objs.size 0 .none := by
    have := Heap.get?_push_size (s.heap.push o) (o := { cls := .type "enumerate", data := .fields #[.none, .bool false, .ref s.heap.objs.size, rawInt 0, .none, .none] }) rfl
    rw [hz] at this; exact this
  exact ⟨⟨_, he, rfl⟩, h _ he (Heap.get?_push_of_some _ (Heap.get?_push_size _ B.free)) fun b o x => Heap.get?_push_of_some _ (Heap.get?_push_of_some _ x)⟩
def iEnumB (K : Frag) (ta : TA) : TI := fun σ H R => ta σ H fun vs H1 => ∃ b a xs, vs = [.ref a] ∧ SqB K H1 b a xs ∧ R (IteB K b a) H1
theorem pi_enumB {X : Cx} {e : Expr} {ta : TA} {p pos tpos : Pos} {elts : List Expr} {kk : Nat} (hg : Gl X "enumerate") (hm : X.mg "enumerate" = none) (ha : PA X [e] ta) (hs : starEach [e] X.env = [(false, eval e X.env)]) :
    PI X (.Tuple elts kk tpos) (.Call (.Name "enumerate" p) [e] [] pos) (iEnumB X.K ta) := by
  refine ⟨fun pins s σ H R I h => ?_⟩
  refine Call_ (ld_blt I hg hm boot_enumerate (PyProof.Rows.callWith_type1 (thn (ha.run pos pins s σ H _ I h) fun us s1 ⟨vs, H1, I1, r1, q1⟩ => ?_) hs rfl))
  obtain ⟨b, a, xs, ex, hq, q⟩ := q1
  subst ex
  obtain ⟨u, rfl, ru⟩ := vals1 r1
  cases ru
  obtain ⟨its, rv, p', hz⟩ := seqB I1 hq
  have la := p'.lt
  refine call_enumB (begB b a its.toArray) p' fun h' he hit hk => wpAny_pyIter_enum he ?_
  have I2 : Inv X pins σ H1 { s1 with heap := h' } := I1.kept (t' := s1.toks) hk
  refine ⟨s1.heap.objs.size + 1, [s1.heap.objs.size + 1, s1.heap.objs.size], _, _, H1, rfl, I2, turn_enumB b a (s1.heap.objs.size + 1) s1.heap.objs.size (Nat.ne_of_gt (Nat.lt_succ_of_lt la)) (Nat.ne_of_lt la), ⟨⟨.none, he⟩, itB0 hit, Nat.succ_ne_self _⟩, fun c hb => ?_, q⟩
  have e' : c = s1.heap.objs.size + 1 ∨ c = s1.heap.objs.size := by simpa using hb
  have hle : s1.heap.objs.size ≤ c := by
    rcases e' with z | z
    · rw [z]; exact Nat.le_succ _
    · rw [z]; exact Nat.le_refl _
  exact I1.fpOk hle (I1.hok.fresh hle)
/-! ### zip -/
def ItzB (K : Frag) (b1 b2 : Bool) (a1 a2 : Addr) : L2.It :=
  ⟨fun i H => ∃ (xs ys : List V) (x y : V), SqB K H b1 a1 xs ∧ SqB K H b2 a2 ys ∧ xs[i]? = some x ∧ ys[i]? = some y,
    fun i H v H' => ∃ T x y, v = .ref T ∧ H T = none ∧ H' = upd H T (.tup [x, y]) ∧ (∀ xs, SqB K H b1 a1 xs → xs[i]? = some x) ∧ ∀ ys, SqB K H b2 a2 ys → ys[i]? = some y,
    fun i H => ∃ xs ys : List V, SqB K H b1 a1 xs ∧ SqB K H b2 a2 ys ∧ i ≤ xs.length ∧ i ≤ ys.length ∧ (i = xs.length ∨ i = ys.length)⟩
theorem turn_zipB {P : Program} {w : World} {K : Frag} {elts : List Expr} {kk : Nat} {tpos : Pos} {a1 a2 z TI TO i1 i2 : Addr} (b1 b2 : Bool) (D : ZipSep2 z TI TO i1 i2 [i1, a1] [i2, a2]) (n1 : a1 ≠ i1) (n2 : a2 ≠ i2) :
    Turn P w K (.Tuple elts kk tpos) (ItzB K b1 b2 a1 a2) [z, TI, TO, i1, i2] z (fun i h => IsZip h z TI TO .none ∧ IsTupOf2 h TI (.ref i1) (.ref i2) ∧ (∃ x y, IsTupOf2 h TO x y) ∧ ItB b1 h i1 a1 i ∧ ItB b2 h i2 a2 i) where
  mem := by simp
  obj := fun i h st c hc => by
    obtain ⟨hz, hTI, ⟨x, y, hTO⟩, h1, h2⟩ := st
    have e' : c = z ∨ c = TI ∨ c = TO ∨ c = i1 ∨ c = i2 := by simpa using hc
    rcases e' with q | q | q | q | q
    · rw [q]; exact ⟨_, hz, fun v q => nomatch q⟩
    · rw [q]; exact ⟨_, hTI, fun v q => nomatch q⟩
    · rw [q]; exact ⟨_, hTO, fun v q => nomatch q⟩
    · rw [q]; exact h1.obj
    · rw [q]; exact h2.obj
  keep := fun i h h' st k => by
    obtain ⟨hz, hTI, ⟨x, y, hTO⟩, h1, h2⟩ := st
    exact ⟨k z (by simp) _ hz, k TI (by simp) _ hTI, ⟨x, y, k TO (by simp) _ hTO⟩, h1.at fun o q => k i1 (by simp) o q, h2.at fun o q => k i2 (by simp) o q⟩
  item := by
    intro X hP hw hK hc i pins s σ H E I hf st hg
    subst hP hw hK
    obtain ⟨hz, hTI, ⟨x0, y0, hTO⟩, h1, h2⟩ := st
    obtain ⟨xs, ys, x, y, hqx, hqy, hx, hy⟩ := hg
    obtain ⟨its, rv, p, _⟩ := seqB I hqx
    obtain ⟨its2, rv2, p2, _⟩ := seqB I hqy
    obtain ⟨u, hu, ru⟩ := rv.get hx
    obtain ⟨u2, hu2, ru2⟩ := rv2.get hy
    have hzl : z < s.heap.objs.size := Heap.lt_size hz
    have hhd : X.A.in1.handled = none := I.ok.hd hc
    have l1 : i < its.toArray.size := by rw [List.size_toArray]; exact (List.getElem?_eq_some_iff.mp hu).1
    have l2 : i < its2.toArray.size := by rw [List.size_toArray]; exact (List.getElem?_eq_some_iff.mp hu2).1
    refine wpAny_pyNext_zipD2_item D (drB b1 hhd i1 a1 n1 its.toArray) (drB b2 hhd i2 a2 n2 its2.toArray) hz hTI hTO ⟨h1, p⟩ ⟨h2, p2⟩ l1 l2 fun x1 x2 h' tk e1 e2 z' TO' h1' h2' hT hsz hk => ?_
    have ex1 : x1 = u := by
      have q : its[i]? = some x1 := by simpa using e1
      rw [hu] at q
      exact (Option.some.inj q).symm
    have ex2 : x2 = u2 := by
      have q : its2[i]? = some x2 := by simpa using e2
      rw [hu2] at q
      exact (Option.some.inj q).symm
    subst ex1 ex2
    refine ⟨_, rfl, wpAny_letOwnedTupleGo_zip (s := { s with heap := h', toks := tk }) z' fun h'' z'' sb => ?_⟩
    have hT2 : h''.get? s.heap.objs.size = some { cls := .type "tuple", data := .seq #[x1, x2] } := (sb.2 _ (Nat.ne_of_gt hzl)).trans hT
    have new : ObjOk X.prog X.w (upd H s.heap.objs.size (.tup [x, y])) h'' s.heap.objs.size (.tup [x, y]) :=
      ⟨by show 2 ≤ sizeLine; decide, [x1, x2], .cons ru (.cons ru2 .nil), ⟨_, hT2, rfl, _, rfl⟩⟩
    have I1 : Inv X pins σ (upd H s.heap.objs.size (.tup [x, y])) { s with heap := h'', toks := tk } :=
      I.turnedNew (ch := [z, TI, TO, i1, i2]) (fun c o hb q => (sb.2 c (fun q' => hb (by simp [q']))).trans (hk c o (fun q' => hb (by simp [q'])) (fun q' => hb (by simp [q'])) (fun q' => hb (by simp [q'])) (fun q' => hb (by simp [q'])) q)) hf (Nat.le_refl _) new
    refine ⟨.ref s.heap.objs.size, _, I1, rfl, ⟨_, x, y, rfl, I.hok.fresh (Nat.le_refl _), rfl, fun l hl => by rw [seqB_inj I hl hqx]; exact hx, fun l hl => by rw [seqB_inj I hl hqy]; exact hy⟩, ⟨z'', ?_, ⟨x1, x2, ?_⟩, ?_, ?_⟩, fun c hcm => ?_⟩
    · exact (sb.2 _ D.TIz).trans (hk _ _ D.TIz D.TITO D.TIi1 D.TIi2 hTI)
    · exact (sb.2 _ D.TOz).trans TO'
    · exact h1'.1.at fun o q => (sb.2 _ D.zi1.symm).trans q
    · exact h2'.1.at fun o q => (sb.2 _ D.zi2.symm).trans q
    · have hlt : c < s.heap.objs.size := by
        have e' : c = z ∨ c = TI ∨ c = TO ∨ c = i1 ∨ c = i2 := by simpa using hcm
        rcases e' with q | q | q | q | q
        · rw [q]; exact hzl
        · rw [q]; exact Heap.lt_size hTI
        · rw [q]; exact Heap.lt_size hTO
        · rw [q]; obtain ⟨_, e1, _⟩ := h1.obj; exact Heap.lt_size e1
        · rw [q]; obtain ⟨_, e2, _⟩ := h2.obj; exact Heap.lt_size e2
      rw [upd_ne (Nat.ne_of_lt hlt)]
      exact (hf c hcm).1
  done := by
    intro X hP hw hK hc i pins s σ H E I hf st hg
    subst hP hw hK
    obtain ⟨hz, hTI, ⟨x0, y0, hTO⟩, h1, h2⟩ := st
    obtain ⟨xs, ys, hqx, hqy, hl1, hl2, hend⟩ := hg
    obtain ⟨its, rv, p, _⟩ := seqB I hqx
    obtain ⟨its2, rv2, p2, _⟩ := seqB I hqy
    have l1 := rv.length
    have l2 := rv2.length
    have hhd : X.A.in1.handled = none := I.ok.hd hc
    refine wpAny_pyNext_zipD2_end D (drB b1 hhd i1 a1 n1 its.toArray) (drB b2 hhd i2 a2 n2 its2.toArray) hz hTI hTO ⟨h1, p⟩ ⟨h2, p2⟩ (by rw [List.size_toArray]; omega) (by rw [List.size_toArray]; omega) (by rw [List.size_toArray, List.size_toArray]; omega) fun h' tk hk => ⟨rfl, I.turnedL (t' := tk) (ch := [z, TI, TO, i1, i2]) (fun c o hb q =>
      hk c o (fun q' => hb (by simp [q'])) (fun q' => hb (by simp [q'])) (fun q' => hb (by simp [q'])) (fun q' => hb (by simp [q'])) q) hf⟩
  self := fun A i s Q E st h => wpAny_pyIter_zip st.1 h
theorem zip_sep (n a1 a2 : Nat) (h1 : a1 < n) (h2 : a2 < n) : ZipSep2 (n + 4) (n + 2) (n + 3) n (n + 1) [n, a1] [n + 1, a2] := by
  have two : ∀ c x y : Nat, c ≠ x → c ≠ y → c ∉ [x, y] := fun c x y e1 e2 z => by
    rcases List.mem_cons.mp z with z | z
    · exact e1 z
    · exact e2 (List.mem_singleton.mp z)
  have k : ∀ x y : Nat, x ≠ y → x ≠ y := fun _ _ h => h
  exact ⟨k (n + 2) (n + 4) (by omega), k (n + 3) (n + 4) (by omega), k (n + 2) (n + 3) (by omega), k (n + 2) n (by omega), by simp, two _ _ _ (by omega) (by omega), two _ _ _ (by omega) (by omega), k (n + 2) (n + 1) (by omega), by simp, two _ _ _ (by omega) (by omega), two _ _ _ (by omega) (by omega), two _ _ _ (by omega) (by omega), two _ _ _ (by omega) (by omega)⟩
def iZipB (K : Frag) (ta : TA) : TI := fun σ H R => ta σ H fun vs H1 => ∃ b1 b2 a1 a2 xs ys, vs = [.ref a1, .ref a2] ∧ SqB K H1 b1 a1 xs ∧ SqB K H1 b2 a2 ys ∧ R (ItzB K b1 b2 a1 a2) H1
theorem pi_zipB {X : Cx} {e e2 : Expr} {ta : TA} {p pos tpos : Pos} {elts : List Expr} {kk : Nat} (hg : Gl X "zip") (hm : X.mg "zip" = none) (ha : PA X [e, e2] ta)
    (hs : starEach [e, e2] X.env = (false, eval e X.env) :: starEach [e2] X.env) (hpl : (backTo pos (starEach [e2] X.env)).any (·.1) = false) :
    PI X (.Tuple elts kk tpos) (.Call (.Name "zip" p) [e, e2] [] pos) (iZipB X.K ta) := by
  refine ⟨fun pins s σ H R I h => ?_⟩
  refine Call_ (ld_blt I hg hm PyProof.Rows.boot_zip (PyProof.Rows.callWith_type1 (thn (ha.run pos pins s σ H _ I h) fun us s1 ⟨vs, H1, I1, r1, q1⟩ => ?_) hs hpl))
  obtain ⟨b1, b2, a1, a2, xs, ys, ex, hqx, hqy, q⟩ := q1
  subst ex
  obtain ⟨u1, u2, rfl, r1, r2⟩ := vals2 r1
  cases r1
  cases r2
  obtain ⟨its, rv, p1, _⟩ := seqB I1 hqx
  obtain ⟨its2, rv2, p2, _⟩ := seqB I1 hqy
  have la := p1.lt
  have lb := p2.lt
  refine zip_begins2 (begB b1 a1 its.toArray) (begB b2 a2 its2.toArray) p1 p2 fun h' hz hTI hTO h1 h2 hsz hk => wpAny_pyIter_zip hz ?_
  have I2 : Inv X pins σ H1 { s1 with heap := h' } := I1.kept (t' := s1.toks) hk
  refine ⟨s1.heap.objs.size + 4, [s1.heap.objs.size + 4, s1.heap.objs.size + 2, s1.heap.objs.size + 3, s1.heap.objs.size, s1.heap.objs.size + 1], _, _, H1, rfl, I2, turn_zipB b1 b2 (zip_sep _ _ _ la lb) (Nat.ne_of_lt la) (Nat.ne_of_lt (Nat.lt_succ_of_lt lb)), ⟨hz, hTI, ⟨_, _, hTO⟩, itB0 h1, itB0 h2⟩, fun c hcm => ?_, q⟩
  have e' : c = s1.heap.objs.size + 4 ∨ c = s1.heap.objs.size + 2 ∨ c = s1.heap.objs.size + 3 ∨ c = s1.heap.objs.size ∨ c = s1.heap.objs.size + 1 := by simpa using hcm
  have hle : s1.heap.objs.size ≤ c := by
    rcases e' with z | z | z | z | z
    · rw [z]; exact Nat.le_add_right _ _
    · rw [z]; exact Nat.le_add_right _ _
    · rw [z]; exact Nat.le_add_right _ _
    · rw [z]; exact Nat.le_refl _
    · rw [z]; exact Nat.le_add_right _ _
  exact I1.fpOk hle (I1.hok.fresh hle)
end TP
end

section
set_option linter.all false
set_option maxRecDepth 100000
/-! What loops and comprehensions walk, by values; targets. -/
namespace TP
open PySem L2 PySem.Spec PyProof.Rows
/-- J goes through xs -/
structure WalksD (K : Frag) (J : L2.It) (F : Hp) (xs : List D) : Prop where
  go : ∀ (C : Ct) (i : Nat) (F1 H1 : Hp) (dk : List (Addr × Addr)), C.K = K → i < xs.length → Same F F1 → Wd C F1 H1 dk → J.go i H1
  stop : ∀ (C : Ct) (F1 H1 : Hp) (dk : List (Addr × Addr)), C.K = K → Same F F1 → Wd C F1 H1 dk → J.stop xs.length H1
  yld : ∀ (C : Ct) (i : Nat) (d : D) (F1 H1 : Hp) (dk : List (Addr × Addr)) (x : V) (H2 : Hp), C.K = K → xs[i]? = some d → Same F F1 → Wd C F1 H1 dk → J.yld i H1 x H2 → ∃ F2, Same F1 F2 ∧ Dv K F2 x d ∧ ∀ (σ : LS) (s : S), Rel C F1 H1 dk σ s → Rel C F2 H2 dk σ s
theorem WalksD.mono {K : Frag} {J : L2.It} {F F' : Hp} {xs : List D} (h : WalksD K J F xs) (sf : Same F F') : WalksD K J F' xs :=
  ⟨fun C i F1 H1 dk e l s w => h.go C i F1 H1 dk e l (sf.trans s) w, fun C F1 H1 dk e s w => h.stop C F1 H1 dk e (sf.trans s) w, fun C i d F1 H1 dk x H2 e l s w y => h.yld C i d F1 H1 dk x H2 e l (sf.trans s) w y⟩
def tI (Y : Fx) (E : XK) (f : S → M (List D × S)) : TI := fun σ H R => ∃ C F dk s, C.toFx = Y ∧ C.E = E ∧ Rel C F H dk σ s ∧ (f s).All (fun r => ∀ F' H' dk' J, Rel C F' H' dk' σ r.2 → WalksD C.K J F' r.1 → R J H') (RPost C)
theorem pi_imp {X : Cx} {tg e : Expr} {t t' : TI} (h : PI X tg e t) (w : ∀ σ H Q, t' σ H Q → t σ H Q) : PI X tg e t' := ⟨fun pins s σ H Q I q => h.run pins s σ H Q I (w σ H Q q)⟩
/-! ### the walks -/
theorem sqB_same {K : Frag} {F H : Hp} {b : Bool} {a : Addr} {vs : List V} (sf : Same F H) (h : SqB K F b a vs) : SqB K H b a vs := by
  cases b with
  | true => exact sf.seq h
  | false => exact same_tup sf h
/-- data that is a list or a tuple -/
theorem seqD_at {K : Frag} {F : Hp} {v : V} {x : D} {xs : List D} (h : Dv K F v x) (e : seqD x = some xs) : ∃ b a vs, v = .ref a ∧ SqB K F b a vs ∧ DvL K F vs xs := by
  cases h with
  | lst e1 r =>
    have e' := Option.some.inj e
    subst e'
    exact ⟨true, _, _, rfl, SqL.of e1, r⟩
  | tup e1 r =>
    have e' := Option.some.inj e
    subst e'
    exact ⟨false, _, _, rfl, e1, r⟩
  | _ => cases e
/-- one list or tuple -/
def IttB (K : Frag) (b : Bool) (a : Addr) : L2.It := match b with
  | true => Itl K a
  | false => Itt K a
theorem walk_seq {K : Frag} {F : Hp} {b : Bool} {a : Addr} {vs : List V} {xs : List D} (h : SqB K F b a vs) (dv : DvL K F vs xs) : WalksD K (IttB K b a) F xs := by
  have hl := dv.length
  cases b with
  | true =>
    refine ⟨fun C i F1 H1 dk e l s w => ?_, fun C F1 H1 dk e s w => ⟨vs, (s.trans w.fh).seq h, by omega⟩, fun C i d F1 H1 dk x H2 e l s w y => ?_⟩
    · exact ⟨vs, vs[i]'(by omega), (s.trans w.fh).seq h, List.getElem?_eq_getElem _⟩
    · obtain ⟨e2, y2⟩ := y
      subst e2
      obtain ⟨z, ez, dz⟩ := dv.get l
      have ex := y2 vs ((s.trans w.fh).seq h)
      rw [ez] at ex
      cases ex
      exact ⟨F1, Same.refl F1, Dv.mono s _ _ dz, fun _ _ r => r⟩
  | false =>
    refine ⟨fun C i F1 H1 dk e l s w => ?_, fun C F1 H1 dk e s w => ⟨vs, same_tup (s.trans w.fh) h, by omega⟩, fun C i d F1 H1 dk x H2 e l s w y => ?_⟩
    · exact ⟨vs, vs[i]'(by omega), same_tup (s.trans w.fh) h, List.getElem?_eq_getElem _⟩
    · obtain ⟨e2, y2⟩ := y
      subst e2
      obtain ⟨z, ez, dz⟩ := dv.get l
      have ex := y2 vs (same_tup (s.trans w.fh) h)
      rw [ez] at ex
      cases ex
      exact ⟨F1, Same.refl F1, Dv.mono s _ _ dz, fun _ _ r => r⟩
theorem rng_get {lo st : Int} {n i : Nat} {d : D} (h : (rngD lo n st)[i]? = some d) : d = .int (lo + (i : Int) * st) ∧ i < n := by
  unfold rngD at h
  rw [List.getElem?_map] at h
  by_cases hi : i < n
  · rw [List.getElem?_range hi] at h
    exact ⟨(Option.some.inj h).symm, hi⟩
  · have : (List.range n)[i]? = none := List.getElem?_eq_none (by rw [List.length_range]; omega)
    rw [this] at h
    cases h
theorem rng_len {lo st : Int} {n : Nat} : (rngD lo n st).length = n := by unfold rngD; rw [List.length_map, List.length_range]
theorem walk_rng {K : Frag} {F : Hp} (lo : Int) (n : Nat) : WalksD K (Itr lo n) F (rngD lo n 1) := by
  refine ⟨fun C i F1 H1 dk e l s w => by rw [rng_len] at l; exact l, fun C F1 H1 dk e s w => by rw [rng_len]; exact Nat.le_refl n, fun C i d F1 H1 dk x H2 e l s w y => ?_⟩
  obtain ⟨e2, e3⟩ := y
  obtain ⟨e4, _⟩ := rng_get l
  subst e2 e3 e4
  rw [Int.mul_one]
  exact ⟨F1, Same.refl F1, .int _, fun _ _ r => r⟩
theorem walk_rngC {K : Frag} {F : Hp} (lo c : Int) (n : Nat) : WalksD K (Itc lo c n) F (rngD lo n c) := by
  refine ⟨fun C i F1 H1 dk e l s w => by rw [rng_len] at l; exact l, fun C F1 H1 dk e s w => by rw [rng_len]; exact Nat.le_refl n, fun C i d F1 H1 dk x H2 e l s w y => ?_⟩
  obtain ⟨e2, e3⟩ := y
  obtain ⟨e4, _⟩ := rng_get l
  subst e2 e3 e4
  exact ⟨F1, Same.refl F1, .int _, fun _ _ r => r⟩
theorem enum_get {xs : List D} {i : Nat} {d : D} (h : (enumD xs)[i]? = some d) : ∃ x, xs[i]? = some x ∧ d = .tuple [.int (i : Nat), x] := by
  unfold enumD at h
  rw [List.getElem?_map, List.getElem?_zipIdx] at h
  cases e : xs[i]? with
  | none => rw [e] at h; cases h
  | some x =>
    rw [e] at h
    refine ⟨x, rfl, ?_⟩
    have h' := (Option.some.inj h).symm
    simpa using h'
theorem enum_len {xs : List D} : (enumD xs).length = xs.length := by unfold enumD; rw [List.length_map, List.length_zipIdx]
theorem newTup_of {K : Frag} {F H : Hp} {C : Ct} {dk : List (Addr × Addr)} {T : Addr} {vs : List V} {ds : List D} (w : Wd C F H dk) (hT : H T = none) (dv : DvL K F vs ds) :
    Same F (upd F T (.tup vs)) ∧ Dv K (upd F T (.tup vs)) (.ref T) (.tuple ds) ∧ ∀ (σ : LS) (s : S), Rel C F H dk σ s → Rel C (upd F T (.tup vs)) (upd H T (.tup vs)) dk σ s :=
  ⟨same_upd (w.freeF hT), .tup (.inl (.inl upd_same)) (DvL.mono (same_upd (w.freeF hT)) _ _ dv), fun _ _ r => r.newF hT⟩
theorem walk_enum {K : Frag} {F : Hp} {b : Bool} {a : Addr} {vs : List V} {xs : List D} (h : SqB K F b a vs) (dv : DvL K F vs xs) : WalksD K (IteB K b a) F (enumD xs) := by
  have hl := dv.length
  refine ⟨fun C i F1 H1 dk e l s w => ?_, fun C F1 H1 dk e s w => ⟨vs, sqB_same (s.trans w.fh) h, by rw [enum_len]; exact hl⟩, fun C i d F1 H1 dk x H2 e l s w y => ?_⟩
  · rw [enum_len] at l
    exact ⟨vs, vs[i]'(by omega), sqB_same (s.trans w.fh) h, List.getElem?_eq_getElem _⟩
  · obtain ⟨T, z, e1, hT, e2, y2⟩ := y
    obtain ⟨x', ex', ed⟩ := enum_get l
    obtain ⟨z', ez', dz⟩ := dv.get ex'
    have ex := y2 vs (sqB_same (s.trans w.fh) h)
    rw [ez'] at ex
    cases ex
    subst e1 e2 ed
    obtain ⟨q1, q2, q3⟩ := newTup_of (K := K) w hT (.cons (.int (i : Nat)) (.cons (Dv.mono s _ _ dz) .nil))
    exact ⟨_, q1, q2, q3⟩
theorem pairs_get {xs ys : List D} {i : Nat} {d : D} (h : (pairsD xs ys)[i]? = some d) : ∃ x y, xs[i]? = some x ∧ ys[i]? = some y ∧ d = .tuple [x, y] := by
  unfold pairsD at h
  rw [List.getElem?_zipWith] at h
  cases e1 : xs[i]? with
  | none => rw [e1] at h; cases h
  | some x =>
    cases e2 : ys[i]? with
    | none => rw [e1, e2] at h; cases h
    | some y =>
      rw [e1, e2] at h
      exact ⟨x, y, rfl, rfl, (Option.some.inj h).symm⟩
theorem pairs_len {xs ys : List D} : (pairsD xs ys).length = min xs.length ys.length := by unfold pairsD; rw [List.length_zipWith]
theorem walk_zip {K : Frag} {F : Hp} {b1 b2 : Bool} {a1 a2 : Addr} {vs ws : List V} {xs ys : List D} (h1 : SqB K F b1 a1 vs) (h2 : SqB K F b2 a2 ws) (d1 : DvL K F vs xs) (d2 : DvL K F ws ys) : WalksD K (ItzB K b1 b2 a1 a2) F (pairsD xs ys) := by
  have hl1 := d1.length
  have hl2 := d2.length
  refine ⟨fun C i F1 H1 dk e l s w => ?_, fun C F1 H1 dk e s w => ⟨vs, ws, sqB_same (s.trans w.fh) h1, sqB_same (s.trans w.fh) h2, by rw [pairs_len]; omega, by rw [pairs_len]; omega, by rw [pairs_len]; omega⟩, fun C i d F1 H1 dk x H2 e l s w y => ?_⟩
  · rw [pairs_len] at l
    exact ⟨vs, ws, vs[i]'(by omega), ws[i]'(by omega), sqB_same (s.trans w.fh) h1, sqB_same (s.trans w.fh) h2, List.getElem?_eq_getElem _, List.getElem?_eq_getElem _⟩
  · obtain ⟨T, z1, z2, e1, hT, e2, y1, y2⟩ := y
    obtain ⟨x1, x2, ex1, ex2, ed⟩ := pairs_get l
    obtain ⟨w1, ew1, dw1⟩ := d1.get ex1
    obtain ⟨w2, ew2, dw2⟩ := d2.get ex2
    have q1 := y1 vs (sqB_same (s.trans w.fh) h1)
    have q2 := y2 ws (sqB_same (s.trans w.fh) h2)
    rw [ew1] at q1
    rw [ew2] at q2
    cases q1
    cases q2
    subst e1 e2 ed
    obtain ⟨q1, q2, q3⟩ := newTup_of (K := K) w hT (.cons (Dv.mono s _ _ dw1) (.cons (Dv.mono s _ _ dw2) .nil))
    exact ⟨_, q1, q2, q3⟩
/-! ### the rules -/
section
variable {Y : Fx} {E : XK} {X : Cx} {tg e a b c : Expr} {p pos tpos : Pos} {elts : List Expr} {kk : Nat}
def iSeqB (K : Frag) (te : TE) : TI := fun σ H R => te σ H fun x H1 => ∃ b a xs, x = .ref a ∧ SqB K H1 b a xs ∧ R (IttB K b a) H1
theorem pi_seqB {te : TE} (he : PE X e te) : PI X tg e (iSeqB X.K te) := by
  refine ⟨fun pins s σ H R I h => ?_⟩
  refine thn (he.run pins s σ H _ I h) fun v s1 ⟨x, H1, I1, r1, q1⟩ => ?_
  obtain ⟨b, a, xs, ex, hq, q⟩ := q1
  subst ex
  cases r1
  obtain ⟨its, rv, p, hz⟩ := seqB I1 hq
  have fr : ∀ c ∈ [s1.heap.objs.size], FpOk X pins H1 c := fun c hc => by
    rw [List.mem_singleton.mp hc]
    exact I1.fpOk (Nat.le_refl _) (I1.hok.fresh (Nat.le_refl _))
  cases b with
  | true =>
    refine wpAny_pyIter_list (show s1.heap.IsList a its.toArray from p) ?_
    exact ⟨s1.heap.objs.size, [s1.heap.objs.size], _, _, H1, rfl, I1.kept (t' := s1.toks) fun b o e => Heap.get?_push_of_some _ e, turn_list a _, ⟨_, Heap.get?_push_size _ rfl, rfl, rfl⟩, fr, q⟩
  | false =>
    refine wpAny_pyIter_tuple (show s1.heap.IsTuple a its.toArray from p) ?_
    exact ⟨s1.heap.objs.size, [s1.heap.objs.size], _, _, H1, rfl, I1.kept (t' := s1.toks) fun b o e => Heap.get?_push_of_some _ e, turn_tuple a _, ⟨_, Heap.get?_push_size _ rfl, rfl, rfl⟩, fr, q⟩
theorem so_iseq (hK : X.K = Y.K) {f : S → M (Vl × S)} (ha : PE X a (tV Y E f)) : PI X tg a (tI Y E fun s => (fz (f s)).bind fun r => (M.ofOpt (seqD r.1)).bind fun xs => .ret (xs, r.2)) := by
  refine pi_imp (pi_seqB (so_fz ha)) fun σ H R ⟨C, F, dk, s, hY, hE, r, q⟩ => ?_
  refine oneF hY hE r (fun _ _ z => z) q fun F1 H1 d1 y s1 x r1 h1 hq => ?_
  obtain ⟨xs, e2, hq⟩ := M.all_ofOpt ((M.all_bind _).mp hq)
  obtain ⟨b, a, vs, ev, hs, dv⟩ := seqD_at h1 e2
  rw [← fK hY hK]
  exact ⟨b, a, vs, ev, sqB_same r1.w.fh hs, hq F1 H1 d1 _ r1 (walk_seq hs dv)⟩
theorem so_irng1 (hg : Gl X "range") (hm : X.mg "range" = none) (hp : plainE a = true) {f : S → M (Vl × S)} (ha : PE X a (tV Y E f)) :
    PI X tg (.Call (.Name "range" p) [a] [] pos) (tI Y E fun s => (fz (f s)).bind fun r => (M.ofOpt (rng1D r.1)).bind fun xs => .ret (xs, r.2)) := by
  refine pi_imp (pi_range1 hg hm (pa_cons (so_fz ha) pa_nil (star_cons hp)) (star_cons hp)) fun σ H R ⟨C, F, dk, s, hY, hE, r, q⟩ => ?_
  refine oneF hY hE r (fun _ _ z => z) q fun F1 H1 d1 y s1 x r1 h1 hq => ?_
  obtain ⟨xs, e2, hq⟩ := M.all_ofOpt ((M.all_bind _).mp hq)
  cases h1 with
  | int n =>
    obtain ⟨hs, ex⟩ := ite_some e2
    refine ⟨n, rfl, ?_, ?_, ?_⟩
    · have := hs.1; omega
    · have := hs.2; omega
    · subst ex
      exact hq F1 H1 d1 _ r1 (walk_rng 0 n.toNat)
  | _ => cases e2
theorem so_irng2 (hg : Gl X "range") (hm : X.mg "range" = none) (hp : plainE a = true) (hp2 : plainE b = true) {f g : S → M (Vl × S)} (ha : PE X a (tV Y E f)) (hb : PE X b (tV Y E g)) :
    PI X tg (.Call (.Name "range" p) [a, b] [] pos) (tI Y E fun s => (fz (f s)).bind fun r => (fz (g r.2)).bind fun q => (M.ofOpt (rng2D r.1 q.1)).bind fun xs => .ret (xs, q.2)) := by
  refine pi_imp (pi_range2 hg hm (pa_cons (so_fz ha) (pa_cons (so_fz hb) pa_nil (star_cons hp2)) (star_cons hp)) (by rw [star_cons hp, star_cons hp2]; rfl) (star_cons hp2)) fun σ H R ⟨C, F, dk, s, hY, hE, r, q⟩ => ?_
  refine oneF hY hE r (fun _ _ z => z) q fun F1 H1 d1 y s1 x r1 h1 hq => ?_
  refine oneF (C := C.now F1 d1) hY hE r1.now (fun c z hz => hz.now r1.w) hq fun F2 H2 d2 y2 s2 x2 r2 h2 hq => ?_
  obtain ⟨xs, e2, hq⟩ := M.all_ofOpt ((M.all_bind _).mp hq)
  cases h1 with
  | int n =>
    cases h2 with
    | int m =>
      obtain ⟨hs, ex⟩ := ite_some e2
      refine ⟨n, m, rfl, ?_, ?_⟩
      · have := hs.1.1; have := hs.1.2; have := hs.2.1; have := hs.2.2; omega
      · subst ex
        exact hq F2 H2 d2 _ (r2.unnow r1.w) (walk_rng n (m - n).toNat)
    | _ => cases e2
  | _ => cases e2
theorem so_irng3 (hg : Gl X "range") (hm : X.mg "range" = none) (hp : plainE a = true) (hp2 : plainE b = true) (hp3 : plainE c = true) {f g h : S → M (Vl × S)} (ha : PE X a (tV Y E f)) (hb : PE X b (tV Y E g)) (hc : PE X c (tV Y E h)) :
    PI X tg (.Call (.Name "range" p) [a, b, c] [] pos) (tI Y E fun s => (fz (f s)).bind fun r => (fz (g r.2)).bind fun q => (fz (h q.2)).bind fun p => (M.ofOpt (rng3D r.1 q.1 p.1)).bind fun xs => .ret (xs, p.2)) := by
  refine pi_imp (pi_range3 hg hm (pa_cons (so_fz ha) (pa_cons (so_fz hb) (pa_cons (so_fz hc) pa_nil (star_cons hp3)) (star_cons hp2)) (star_cons hp)) (star_cons hp) (star_any (by simp [hp2, hp3]))) fun σ H R ⟨C, F, dk, s, hY, hE, r, q⟩ => ?_
  refine oneF hY hE r (fun _ _ z => z) q fun F1 H1 d1 y s1 x r1 h1 hq => ?_
  refine oneF (C := C.now F1 d1) hY hE r1.now (fun c z hz => hz.now r1.w) hq fun F2 H2 d2 y2 s2 x2 r2 h2 hq => ?_
  have r2' := r2.unnow r1.w
  refine oneF (C := C.now F2 d2) hY hE r2'.now (fun c z hz => hz.now r2'.w) hq fun F3 H3 d3 y3 s3 x3 r3 h3 hq => ?_
  obtain ⟨xs, e2, hq⟩ := M.all_ofOpt ((M.all_bind _).mp hq)
  cases h1 with
  | int n =>
    cases h2 with
    | int m =>
      cases h3 with
      | int k =>
        obtain ⟨⟨hs1, hs2, hk⟩, ex⟩ := ite_some e2
        subst hk ex
        refine ⟨n, m, -1, (n - m).toNat, rfl, RgC.neg ?_ ?_ ?_ ?_, hq F3 H3 d3 _ (r3.unnow r2'.w) (walk_rngC n (-1) (n - m).toNat)⟩
        · have := hs1.1; omega
        · have := hs1.2; omega
        · have := hs2.1; omega
        · have := hs2.2; omega
      | _ => cases e2
    | _ => cases e2
  | _ => cases e2
theorem so_ienum (hK : X.K = Y.K) (hg : Gl X "enumerate") (hm : X.mg "enumerate" = none) (hp : plainE a = true) {f : S → M (Vl × S)} (ha : PE X a (tV Y E f)) :
    PI X (.Tuple elts kk tpos) (.Call (.Name "enumerate" p) [a] [] pos) (tI Y E fun s => (fz (f s)).bind fun r => (M.ofOpt (seqD r.1)).bind fun xs => .ret (enumD xs, r.2)) := by
  refine pi_imp (pi_enumB hg hm (pa_cons (so_fz ha) pa_nil (star_cons hp)) (star_cons hp)) fun σ H R ⟨C, F, dk, s, hY, hE, r, q⟩ => ?_
  refine oneF hY hE r (fun _ _ z => z) q fun F1 H1 d1 y s1 x r1 h1 hq => ?_
  obtain ⟨xs, e2, hq⟩ := M.all_ofOpt ((M.all_bind _).mp hq)
  obtain ⟨b, a, vs, ev, hs, dv⟩ := seqD_at h1 e2
  subst ev
  rw [← fK hY hK]
  exact ⟨b, a, vs, rfl, sqB_same r1.w.fh hs, hq F1 H1 d1 _ r1 (walk_enum hs dv)⟩
theorem so_izip (hK : X.K = Y.K) (hg : Gl X "zip") (hm : X.mg "zip" = none) (hp : plainE a = true) (hp2 : plainE b = true) {f g : S → M (Vl × S)} (ha : PE X a (tV Y E f)) (hb : PE X b (tV Y E g)) :
    PI X (.Tuple elts kk tpos) (.Call (.Name "zip" p) [a, b] [] pos) (tI Y E fun s => (fz (f s)).bind fun r => (fz (g r.2)).bind fun q => (M.ofOpt ((seqD r.1).bind fun xs => (seqD q.1).map fun ys => pairsD xs ys)).bind fun xs => .ret (xs, q.2)) := by
  refine pi_imp (pi_zipB hg hm (pa_cons (so_fz ha) (pa_cons (so_fz hb) pa_nil (star_cons hp2)) (star_cons hp)) (star_cons hp) (star_any (by simp [hp2]))) fun σ H R ⟨C, F, dk, s, hY, hE, r, q⟩ => ?_
  refine oneF hY hE r (fun _ _ z => z) q fun F1 H1 d1 y s1 x r1 h1 hq => ?_
  refine oneF (C := C.now F1 d1) hY hE r1.now (fun c z hz => hz.now r1.w) hq fun F2 H2 d2 y2 s2 x2 r2 h2 hq => ?_
  obtain ⟨zs, e2, hq⟩ := M.all_ofOpt ((M.all_bind _).mp hq)
  obtain ⟨xs, e3, e4⟩ := bind_opt e2
  obtain ⟨ys, e5, e6⟩ := map_opt e4
  obtain ⟨b1, a1, vs, ev, hs, dv⟩ := seqD_at h1 e3
  obtain ⟨b2, a2, ws, ew, hs2, dw⟩ := seqD_at h2 e5
  subst ev ew e6
  have r2' := r2.unnow r1.w
  rw [← fK hY hK]
  have hs' := sqB_same r2.w.ff hs
  exact ⟨b1, b2, a1, a2, vs, ws, rfl, sqB_same r2.w.fh hs', sqB_same r2.w.fh hs2, hq F2 H2 d2 _ r2' (walk_zip hs' hs2 (DvL.mono r2.w.ff _ _ dv) dw)⟩
end
end TP
end

section
set_option linter.all false
set_option maxRecDepth 100000
/-! Targets, comprehensions. -/
namespace TP
open PySem L2 PySem.Spec PyProof.Rows
/-- the slots agree but for ns -/
def Agree (ns : List Nat) (σ σ' : LS) : Prop := σ'.length = σ.length ∧ ∀ j, j ∉ ns → σ'.getD j none = σ.getD j none
theorem Agree.refl {ns : List Nat} (σ : LS) : Agree ns σ σ := ⟨rfl, fun _ _ => rfl⟩
theorem Agree.trans {ns ms : List Nat} {σ σ1 σ2 : LS} (h : Agree ns σ σ1) (g : Agree ms σ1 σ2) : Agree (ns ++ ms) σ σ2 :=
  ⟨g.1.trans h.1, fun j hj => (g.2 j fun z => hj (List.mem_append_right _ z)).trans (h.2 j fun z => hj (List.mem_append_left _ z))⟩
theorem Agree.sub {ns ms : List Nat} {σ σ' : LS} (h : Agree ns σ σ') (s : ∀ i ∈ ns, i ∈ ms) : Agree ms σ σ' := ⟨h.1, fun j hj => h.2 j fun z => hj (s j z)⟩
mutual
def tgN : Tg → List Nat
  | .nm i => [i]
  | .tp ts => tgNs ts
def tgNs : Tgs → List Nat
  | .nil => []
  | .cons t ts => tgN t ++ tgNs ts
end
def tG (Y : Fx) (ns : List Nat) (f : D → S → Option S) : TG := fun v σ H Q => ∃ (C : Ct) (F : Hp) (dk : List (Addr × Addr)) (s : S) (x : D) (s' : S), C.toFx = Y ∧ Rel C F H dk σ s ∧ Dv C.K F v x ∧ f x s = some s' ∧ ∀ σ', Rel C F H dk σ' s' → Agree ns σ σ' → Q σ' H
def tGs (Y : Fx) (ns : List Nat) (f : List D → S → Option S) : TGs := fun vs σ H Q => ∃ (C : Ct) (F : Hp) (dk : List (Addr × Addr)) (s : S) (xs : List D) (s' : S), C.toFx = Y ∧ Rel C F H dk σ s ∧ DvL C.K F vs xs ∧ f xs s = some s' ∧ ∀ σ', Rel C F H dk σ' s' → Agree ns σ σ' → Q σ' H
theorem pg_imp {X : Cx} {tg : Expr} {t t' : TG} (h : PG X tg t) (w : ∀ v σ H Q, t' v σ H Q → t v σ H Q) : PG X tg t' := ⟨fun pins s σ H v u Q I r q => h.run pins s σ H v u Q I r (w v σ H Q q)⟩
theorem pgs_imp {X : Cx} {tg : List Expr} {t t' : TGs} (h : PGs X tg t) (w : ∀ v σ H Q, t' v σ H Q → t v σ H Q) : PGs X tg t' := ⟨fun pins s σ H v u Q I r q => h.run pins s σ H v u Q I r (w v σ H Q q)⟩
theorem agree_set {σ : LS} {i : Nat} {v : Option V} : Agree [i] σ (σ.set i v) := by
  refine ⟨List.length_set .., fun j hj => ?_⟩
  rw [getD_set, if_neg fun z => hj (by rw [z.1]; simp)]
section
variable {Y : Fx} {E : XK} {X : Cx}
theorem sg_nm {i : Nat} {x : Str} {pos : Pos} (hN : X.N.Nodup) (hi : X.N[i]? = some x) (hx : Loc X.env.scope x) (hf : X.fn x = true ∨ X.env.scope.names.lookup x = some .local) : PG X (.Name x pos) (tG Y [i] (asg (.nm i))) := by
  refine pg_imp (pg_name hN hi hx hf) fun v σ H Q ⟨C, F, dk, s, x, s', hY, r, hd, e, q⟩ => ?_
  have e' := Option.some.inj (show some (s.set i (some (.d x))) = some s' from e)
  subst e'
  exact q _ ((r.with_d hd).store i) agree_set
theorem sg_nil : PGs X [] (tGs Y [] (asgs .nil)) := by
  refine pgs_imp pgs_nil fun v σ H Q ⟨C, F, dk, s, xs, s', hY, r, hd, e, q⟩ => ?_
  cases xs with
  | nil =>
    cases hd
    have e' := Option.some.inj (show some s = some s' from e)
    subst e'
    exact ⟨rfl, q σ r (Agree.refl σ)⟩
  | cons _ _ => cases e
theorem assignEach_cons {e : Expr} {es : List Expr} {env : Env} (h : plainE e = true) : (assignEach (e :: es) env).map (·.2) = assign e env :: (assignEach es env).map (·.2) := by
  cases e <;> first | rfl | cases h
theorem assignEach_len {env : Env} : ∀ {es : List Expr}, es.all plainE = true → (assignEach es env).length = es.length ∧ (assignEach es env).findIdx? (·.1) = none
  | [], _ => ⟨rfl, rfl⟩
  | e :: es, h => by
    obtain ⟨h1, h2⟩ := Bool.and_eq_true_iff.mp (by simpa only [List.all_cons] using h)
    obtain ⟨i1, i2⟩ := assignEach_len (env := env) h2
    have e0 : assignEach (e :: es) env = (false, assign e env) :: assignEach es env := by cases e <;> first | rfl | cases h1
    rw [e0]
    refine ⟨congrArg Nat.succ i1, ?_⟩
    rw [List.findIdx?_cons, i2]
    rfl
theorem sg_cons {e : Expr} {es : List Expr} {t : Tg} {ts : Tgs} (hp : plainE e = true) (h1 : PG X e (tG Y (tgN t) (asg t))) (h2 : PGs X es (tGs Y (tgNs ts) (asgs ts))) : PGs X (e :: es) (tGs Y (tgNs (.cons t ts)) (asgs (.cons t ts))) := by
  refine pgs_imp (pgs_cons h1 h2 (assignEach_cons hp)) fun v σ H Q ⟨C, F, dk, s, xs, s', hY, r, hd, e, q⟩ => ?_
  cases xs with
  | nil => cases e
  | cons x xs =>
    cases hd with
    | cons a b =>
      obtain ⟨s1, e1, e2⟩ := bind_opt (show ((asg t x s).bind fun s1 => asgs ts xs s1) = some s' from e)
      exact ⟨_, _, rfl, C, F, dk, s, x, s1, hY, r, a, e1, fun σ1 r1 g1 => ⟨C, F, dk, s1, xs, s', hY, r1, b, e2, fun σ2 r2 g2 => q σ2 r2 (g1.trans g2)⟩⟩
def Tgs.len : Tgs → Nat
  | .nil => 0
  | .cons _ ts => ts.len + 1
theorem asgs_len : ∀ {ts : Tgs} {xs : List D} {s s' : S}, asgs ts xs s = some s' → xs.length = ts.len
  | .nil, [], _, _, _ => rfl
  | .nil, _ :: _, _, _, e => by cases e
  | .cons _ _, [], _, _, e => by cases e
  | .cons t ts, x :: xs, s, s', e => by
    obtain ⟨s1, e1, e2⟩ := bind_opt (show ((asg t x s).bind fun s1 => asgs ts xs s1) = some s' from e)
    exact congrArg Nat.succ (asgs_len e2)
theorem sg_tp (hK : X.K = Y.K) (hc : X.calm = true) {es : List Expr} {k : Nat} {pos : Pos} {ts : Tgs} (h : PGs X es (tGs Y (tgNs ts) (asgs ts))) (hp : es.all plainE = true) (hl : es.length = ts.len) : PG X (.Tuple es k pos) (tG Y (tgN (.tp ts)) (asg (.tp ts))) := by
  obtain ⟨l1, l2⟩ := assignEach_len (env := X.env) hp
  refine pg_imp (pg_tup hc h (l1.trans hl) l2) fun v σ H Q ⟨C, F, dk, s, x, s', hY, r, hd, e, q⟩ => ?_
  cases x with
  | tuple xs =>
    have e' : asgs ts xs s = some s' := e
    cases hd with
    | tup ha dv =>
      refine ⟨_, _, rfl, ?_, ?_, C, F, dk, s, xs, s', hY, r, dv, e', fun σ' r' g => q σ' r' g⟩
      · rw [← fK hY hK]; exact same_tup r.w.fh ha
      · rw [dv.length, asgs_len e']
  | _ => cases e
end
/-! ### the block's own names -/
theorem wipeS_get {own : List Nat} : ∀ {s : S} {j : Nat}, gt (wipeS own s) j = if j ∈ own then none else gt s j := by
  induction own with
  | nil => intro s j; simp [wipeS]
  | cons i r ih =>
    intro s j
    show gt (wipeS r (s.set i none)) j = _
    rw [ih]
    by_cases hj : j ∈ r
    · rw [if_pos hj, if_pos (List.mem_cons_of_mem _ hj)]
    · rw [if_neg hj]
      show (s.set i none).getD j none = _
      rw [getD_set]
      by_cases e : i = j
      · subst e
        rw [if_pos (List.mem_cons_self)]
        by_cases hl : i < s.length
        · rw [if_pos ⟨rfl, hl⟩]
        · rw [if_neg (fun z => hl z.2)]
          rw [List.getD_eq_getElem?_getD, List.getElem?_eq_none (by omega)]
          rfl
      · rw [if_neg (fun z => e z.1), if_neg]
        · rfl
        · intro z
          rcases List.mem_cons.mp z with z | z
          · exact e z.symm
          · exact hj z
theorem wipeS_len {own : List Nat} : ∀ {s : S}, (wipeS own s).length = s.length := by
  induction own with
  | nil => intro s; rfl
  | cons i r ih =>
    intro s
    show (wipeS r (s.set i none)).length = _
    rw [ih, List.length_set]
theorem backS_get {own : List Nat} {s0 : S} : ∀ {s : S} {j : Nat}, s.length = s0.length → gt (backS own s0 s) j = if j ∈ own then keepD (gt s0 j) else gt s j := by
  induction own with
  | nil => intro s j _; simp [backS]
  | cons i r ih =>
    intro s j hl
    show gt (backS r s0 (s.set i (keepD (gt s0 i)))) j = _
    rw [ih (by rw [List.length_set]; exact hl)]
    by_cases hj : j ∈ r
    · rw [if_pos hj, if_pos (List.mem_cons_of_mem _ hj)]
    · rw [if_neg hj]
      show (s.set i (keepD (gt s0 i))).getD j none = _
      rw [getD_set]
      by_cases e : i = j
      · subst e
        rw [if_pos (List.mem_cons_self)]
        by_cases hl2 : i < s.length
        · rw [if_pos ⟨rfl, hl2⟩]
        · rw [if_neg (fun z => hl2 z.2)]
          have e1 : gt s0 i = none := by
            show s0.getD i none = none
            rw [List.getD_eq_getElem?_getD, List.getElem?_eq_none (by omega)]
            rfl
          rw [e1, List.getD_eq_getElem?_getD, List.getElem?_eq_none (by omega)]
          rfl
      · rw [if_neg (fun z => e z.1), if_neg]
        · rfl
        · intro z
          rcases List.mem_cons.mp z with z | z
          · exact e z.symm
          · exact hj z
theorem backS_len {own : List Nat} {s0 : S} : ∀ {s : S}, (backS own s0 s).length = s.length := by
  induction own with
  | nil => intro s; rfl
  | cons i r ih =>
    intro s
    show (backS r s0 (s.set i (keepD (gt s0 i)))).length = _
    rw [ih, List.length_set]
theorem wipe_get {own : List Nat} {σ : LS} {j : Nat} : (wipe σ own).getD j none = if j ∈ own then none else σ.getD j none := by
  induction own with
  | nil => simp [wipe]
  | cons i r ih =>
    show ((wipe σ r).set i none).getD j none = _
    rw [getD_set]
    by_cases e : i = j
    · subst e
      rw [if_pos (List.mem_cons_self)]
      by_cases hl2 : i < (wipe σ r).length
      · rw [if_pos ⟨rfl, hl2⟩]
      · rw [if_neg (fun z => hl2 z.2), List.getD_eq_getElem?_getD, List.getElem?_eq_none (by omega)]
        rfl
    · rw [if_neg (fun z => e z.1), ih]
      by_cases hj : j ∈ r
      · rw [if_pos hj, if_pos (List.mem_cons_of_mem _ hj)]
      · rw [if_neg hj, if_neg]
        intro z
        rcases List.mem_cons.mp z with z | z
        · exact e z.symm
        · exact hj z
theorem getD_ext {α : Type} {l l' : List (Option α)} (h : l.length = l'.length) (g : ∀ j, l.getD j none = l'.getD j none) : l = l' := by
  apply List.ext_getElem? 
  intro j
  have := g j
  rw [List.getD_eq_getElem?_getD, List.getD_eq_getElem?_getD] at this
  by_cases hj : j < l.length
  · rw [List.getElem?_eq_getElem hj, List.getElem?_eq_getElem (h ▸ hj)] at this ⊢
    exact congrArg some this
  · rw [List.getElem?_eq_none (by omega), List.getElem?_eq_none (by omega)]
theorem wipe_agree {own ns : List Nat} {σ σ2 : LS} (g : Agree ns (wipe σ own) σ2) (h : ∀ i ∈ ns, i ∈ own) : wipe σ2 own = wipe σ own := by
  refine getD_ext (by rw [wipe_length, wipe_length, g.1, wipe_length]) fun j => ?_
  rw [wipe_get, wipe_get]
  by_cases hj : j ∈ own
  · rw [if_pos hj, if_pos hj]
  · rw [if_neg hj, if_neg hj, g.2 j fun z => hj (h j z), wipe_get, if_neg hj]
section
variable {C : Ct} {F H F1 H1 : Hp} {dk d1 : List (Addr × Addr)} {σ : LS} {s s1 s2 : S} {own : List Nat} {v : V} {x : Vl}
theorem Rel.wipe_ (r : Rel C F H dk σ s) (own : List Nat) : Rel C F H dk (wipe σ own) (wipeS own s) := by
  obtain ⟨fp, h1, h2⟩ := r.sl
  refine ⟨r.w, by rw [wipe_length, wipeS_len]; exact r.len, fun j => if j ∈ own then [] else fp j, fun j => ?_, fun i j a ha hb => ?_⟩
  · rw [wipe_get, wipeS_get]
    dsimp only
    by_cases hj : j ∈ own
    · rw [if_pos hj, if_pos hj, if_pos hj]; exact .no _
    · rw [if_neg hj, if_neg hj, if_neg hj]; exact h1 j
  · dsimp only at ha hb
    by_cases hi : i ∈ own
    · rw [if_pos hi] at ha; cases ha
    · by_cases hj : j ∈ own
      · rw [if_pos hj] at hb; cases hb
      · rw [if_neg hi] at ha
        rw [if_neg hj] at hb
        exact h2 i j a ha hb
/-- behind a block: the names outside stand as they stood, the value is there -/
theorem Rel.back (r0 : Rel C F1 H1 d1 σ s1) (r : Rel1 (C.now F1 d1) F H dk (wipe σ own) s2 v x) : Rel1 C F H dk σ (backS own s1 s2) v x := by
  obtain ⟨fp, h1, h2⟩ := r.sl
  obtain ⟨fq, g1, g2⟩ := r0.sl
  have l1 : (wipe σ own).length = s2.length := Nat.succ.inj r.len
  rw [wipe_length] at l1
  have l2 : s2.length = s1.length := by rw [← l1, r0.len]
  refine ⟨r0.w.unnow r.w, by rw [List.length_cons, List.length_cons, backS_len, l1], fun j => match j with | 0 => fp 0 | j + 1 => if j ∈ own then [] else fp (j + 1), fun j => ?_, fun i j a ha hb => ?_⟩
  · cases j with
    | zero => exact (h1 0).unnow
    | succ j =>
      show SR C F H dk (σ.getD j none) (gt (backS own s1 s2) j) (if j ∈ own then [] else fp (j + 1))
      rw [backS_get l2]
      by_cases hj : j ∈ own
      · rw [if_pos hj, if_pos hj]
        have z := g1 j
        generalize fq j = f at z
        generalize σ.getD j none = si at z
        generalize gt s1 j = gi at z
        cases z with
        | no _ => exact .no _
        | d h => exact .d (Dv.mono r.w.ff _ _ h)
        | own _ => exact .no _
        | deck _ => exact .no _
        | scr _ => exact .no _
      · rw [if_neg hj, if_neg hj]
        have z := h1 (j + 1)
        have e : (some v :: wipe σ own).getD (j + 1) none = σ.getD j none := by
          show (wipe σ own).getD j none = _
          rw [wipe_get, if_neg hj]
        rw [e] at z
        exact z.unnow
  · have key : ∀ k b, b ∈ (match k with | 0 => fp 0 | k + 1 => if k ∈ own then [] else fp (k + 1) : List Addr) → b ∈ fp k := fun k b hk => by
      cases k with
      | zero => exact hk
      | succ k =>
        dsimp only at hk
        by_cases z : k ∈ own
        · rw [if_pos z] at hk; cases hk
        · rw [if_neg z] at hk; exact hk
    exact h2 i j a (key i a ha) (key j a hb)
/-! ### a list that grows beside the slots -/
def Ct.plus (C : Ct) (a : Addr) (vs : List V) : Ct := { C with B := upd C.B a (.lst vs) }
theorem Rel1.plus {a : Addr} {xs : List D} (r : Rel1 C F H dk σ s (.ref a) (.own xs)) : ∃ vs, H a = some (.lst vs) ∧ DvL C.K F vs xs ∧ C.F0 a = none ∧ C.B a = none ∧ Rel (C.plus a vs) F H dk σ s := by
  obtain ⟨fp, h1, h2⟩ := r.sl
  have h0 : SR C F H dk (some (.ref a)) (some (.own xs)) (fp 0) := h1 0
  generalize hf : fp 0 = f at h0
  cases h0 with
  | own ow =>
    obtain ⟨fa, ba, va, vs, ha, hd⟩ := ow
    have f0 : C.F0 a = none := by
      cases e : C.F0 a with
      | none => rfl
      | some o => rw [r.w.ff _ _ e] at fa; cases fa
    refine ⟨vs, ha, hd, f0, ba, ⟨r.w.fh, fun b o e => ?_, r.w.ff, r.w.dd, r.w.da, fun b hb => ⟨(r.w.df b hb).1, ?_⟩, fun b hb h0 => ?_⟩, Nat.succ.inj r.len, fun i => fp (i + 1), fun i => ?_, fun i j b hb hc => Nat.succ.inj (h2 _ _ b hb hc)⟩
    · have e' : upd C.B a (.lst vs) b = some o := e
      by_cases hb : b = a
      · rw [hb, upd_same] at e'
        rw [hb, ha]
        exact e'
      · rw [upd_ne hb] at e'
        exact r.w.bh _ _ e'
    · show upd C.B a (.lst vs) b = none
      rw [upd_ne (show b ≠ a from fun z => va (z ▸ hb))]
      exact (r.w.df b hb).2
    · by_cases hba : b = a
      · rw [hba]; exact fa
      · have hb' : upd C.B a (.lst vs) b ≠ none := hb
        rw [upd_ne hba] at hb'
        exact r.w.fb b hb' h0
    · have z := h1 (i + 1)
      have o : a ∉ fp (i + 1) := fun hm => by
        have hm0 : a ∈ fp 0 := by rw [hf]; simp
        cases h2 _ _ a hm0 hm
      show SR (C.plus a vs) F H dk (σ.getD i none) (gt s i) (fp (i + 1))
      have z' : SR C F H dk (σ.getD i none) (gt s i) (fp (i + 1)) := z
      generalize fp (i + 1) = f at z' o
      generalize σ.getD i none = si at z'
      generalize gt s i = gi at z'
      cases z' with
      | no _ => exact .no _
      | d h => exact .d h
      | own q =>
        obtain ⟨o1, o2, o3, ws, o4, o5⟩ := q
        refine .own ⟨o1, ?_, o3, ws, o4, o5⟩
        show upd C.B a (.lst vs) _ = none
        rw [upd_ne fun e => o (by rw [← e]; simp)]
        exact o2
      | deck h => exact .deck h
      | scr h => exact .scr h
theorem Rel.unplus {a : Addr} {vs : List V} {xs : List D} (f0 : C.F0 a = none) (b0 : C.B a = none) (r : Rel (C.plus a vs) F H dk σ s) (hd : DvL C.K F vs xs) : H a = some (.lst vs) ∧ Rel1 C F H dk σ s (.ref a) (.own xs) := by
  obtain ⟨fp, h1, h2⟩ := r.sl
  have ba : (C.plus a vs).B a = some (.lst vs) := upd_same
  have ha : H a = some (.lst vs) := r.w.bh _ _ ba
  have fa : F a = none := r.w.fb a (by rw [ba]; exact fun z => by cases z) f0
  have va : a ∉ vol dk := fun z => by
    have := (r.w.df a z).2
    rw [ba] at this
    cases this
  have own : ∀ i b, b ∈ fp i → b ≠ a := fun i b hb => by
    have z := h1 i
    generalize fp i = f at hb z
    generalize σ.getD i none = si at z
    generalize gt s i = gi at z
    cases z with
    | no _ => cases hb
    | d _ => cases hb
    | own q =>
      obtain ⟨_, o2, _⟩ := q
      rw [List.mem_singleton.mp hb]
      intro e
      rw [e, ba] at o2
      cases o2
    | deck _ => cases hb
    | scr _ => cases hb
  refine ⟨ha, ⟨⟨r.w.fh, fun b o e => r.w.bh b o ?_, r.w.ff, r.w.dd, r.w.da, fun b hb => ⟨(r.w.df b hb).1, ?_⟩, fun b hb h0 => r.w.fb b ?_ h0⟩, congrArg Nat.succ r.len, fun i => match i with | 0 => [a] | i + 1 => fp i, fun i => ?_, fun i j b hb hc => ?_⟩⟩
  · show upd C.B a (.lst vs) b = some o
    rw [upd_ne fun z => by rw [z, b0] at e; cases e]
    exact e
  · have q : upd C.B a (.lst vs) b = none := (r.w.df b hb).2
    rw [upd_ne (show b ≠ a from fun z => va (z ▸ hb))] at q
    exact q
  · show upd C.B a (.lst vs) b ≠ none
    rw [upd_ne fun z => hb (by rw [z]; exact b0)]
    exact hb
  · cases i with
    | zero => exact .own ⟨fa, b0, va, vs, ha, hd⟩
    | succ i =>
      have z := h1 i
      have o := own i
      show SR C F H dk (σ.getD i none) (gt s i) (fp i)
      generalize fp i = f at z o
      generalize σ.getD i none = si at z
      generalize gt s i = gi at z
      cases z with
      | no _ => exact .no _
      | d h => exact .d h
      | own q =>
        obtain ⟨o1, o2, o3, ws, o4, o5⟩ := q
        refine .own ⟨o1, ?_, o3, ws, o4, o5⟩
        have q : upd C.B a (.lst vs) _ = none := o2
        rw [upd_ne (o _ (by simp))] at q
        exact q
      | deck h => exact .deck h
      | scr h => exact .scr h
  · cases i with
    | zero =>
      cases j with
      | zero => rfl
      | succ j => exact absurd (List.mem_singleton.mp hb) (own j b hc)
    | succ i =>
      cases j with
      | zero => exact absurd (List.mem_singleton.mp hc) (own i b hb)
      | succ j => exact congrArg Nat.succ (h2 i j b hb hc)
/-- one's own list beside the slots is written -/
theorem Rel1.upd_ {a : Addr} {xs ys : List D} {vs : List V} (r : Rel1 C F H dk σ s (.ref a) (.own xs)) (hd : DvL C.K F vs ys) : Rel1 C F (upd H a (.lst vs)) dk σ s (.ref a) (.own ys) := by
  have r' : Rel C F H dk (some (.ref a) :: σ) (some (.own xs) :: s) := r
  obtain ⟨a', ws, e1, _, _, k⟩ := r'.ownAt (i := 0) (xs := xs) rfl
  have ea : a = a' := by
    have q : some (some (V.ref a)) = some (some (V.ref a')) := e1
    exact V.ref.inj (Option.some.inj (Option.some.inj q))
  subst ea
  exact k vs ys hd
end
/-! ### comprehensions -/
/-- no wish about exceptions -/
def Ct.mute (C : Ct) : Ct := { C with E := fun _ _ _ => False }
theorem Rel.mute {C : Ct} {F H : Hp} {dk : List (Addr × Addr)} {σ : LS} {s : S} (r : Rel C F H dk σ s) : Rel C.mute F H dk σ s := by
  obtain ⟨fp, h1, h2⟩ := r.sl
  refine ⟨⟨r.w.fh, r.w.bh, r.w.ff, r.w.dd, r.w.da, r.w.df, r.w.fb⟩, r.len, fp, fun j => ?_, h2⟩
  have z := h1 j
  generalize fp j = f at z
  generalize σ.getD j none = si at z
  generalize gt s j = gi at z
  cases z with
  | no _ => exact .no _
  | d h => exact .d h
  | own h => exact .own h
  | deck h => exact .deck h
  | scr h => exact .scr h
theorem Rel.unmute {C : Ct} {F H : Hp} {dk : List (Addr × Addr)} {σ : LS} {s : S} (r : Rel C.mute F H dk σ s) : Rel C F H dk σ s := by
  obtain ⟨fp, h1, h2⟩ := r.sl
  refine ⟨⟨r.w.fh, r.w.bh, r.w.ff, r.w.dd, r.w.da, r.w.df, r.w.fb⟩, r.len, fp, fun j => ?_, h2⟩
  have z := h1 j
  generalize fp j = f at z
  generalize σ.getD j none = si at z
  generalize gt s j = gi at z
  cases z with
  | no _ => exact .no _
  | d h => exact .d h
  | own h => exact .own h
  | deck h => exact .deck h
  | scr h => exact .scr h
def tF0 (Y : Fx) (f : S → M (D × S)) : TE := tF Y (fun _ _ _ => False) f
section
variable {Y : Fx} {E : XK} {X : Cx}
/-- ends, from the eyes of a later state -/
theorem QV.now {C : Ct} {F H : Hp} {dk : List (Addr × Addr)} {σ : LS} {Q : VK} {r : Vl × S} (w : Wd C F H dk) (h : QV C σ Q r) : QV (C.now F dk) σ Q r := fun F1 H1 d1 v r1 => h F1 H1 d1 v (Rel.unnow w r1)
theorem comp_rd {own ns : List Nat} {it : S → M (List D × S)} {tg : D → S → Option S} {c : S → M (Bool × S)} {el : S → M (Vl × S)} {σ : LS} {H : Hp} {Q : VK} (hn : ∀ i ∈ ns, i ∈ own)
    (q : tV Y E (fun s => (it s).bind fun r => (M.ofOpt (if r.1.length ≤ 16777216 then some () else none)).bind fun _ => (compM own tg c el r.1 (wipeS own r.2) []).nox.bind fun q => .ret (.own q.1, backS own r.2 q.2)) σ H Q) :
    tLc (tI Y E it) (tG Y ns tg) (tBo Y (fun _ _ _ => False) c) (tF0 Y fun s => fz (el s)) own σ H Q := by
  obtain ⟨C, F, dk, s, hY, hE, r, q⟩ := q
  refine ⟨C, F, dk, s, hY, hE, r, ((M.all_bind _).mp q).mono (fun p hp F1 H1 d1 J r1 wk => ?_) fun _ _ z => z⟩
  obtain ⟨xs, s1⟩ := p
  obtain ⟨_, ez, hp⟩ := M.all_ofOpt ((M.all_bind _).mp hp)
  have hsz : xs.length ≤ 16777216 := (ite_some ez).1
  have hp' := (M.all_bind _).mp hp
  have hp2 := M.all_nox (R' := fun _ _ => False) hp'
  intro D hD
  -- the invariant
  refine ⟨fun i m H => ∃ F d s2 acc, Rel1 (C.now F1 d1) F H d (wipe σ own) s2 (.ref D) (.own acc) ∧ m = xs.length - i ∧ i ≤ xs.length ∧ acc.length ≤ i ∧
      (compM own tg c el (xs.drop i) s2 acc).All (fun q => QV C σ Q (.own q.1, backS own s1 q.2)) (fun _ _ => False), ⟨xs.length, ?_⟩, fun i m H' ⟨F2, d2, s2, acc, r2, em, hi, ha, hM⟩ => ?_⟩
  · exact ⟨F1, d1, wipeS own s1, [], (r1.now.wipe_ own).newOwn hD .nil, by simp, Nat.zero_le _, Nat.le_refl _, hp2⟩
  · by_cases hlt : i < xs.length
    · refine .inr ⟨wk.go (C.now F1 d1) i F2 H' d2 rfl hlt r2.w.ff r2.w, fun H'' => ∃ F d s2 acc, Rel1 (C.now F1 d1) F H'' d (wipe σ own) s2 (.ref D) (.own acc) ∧ acc.length ≤ i + 1 ∧
        (compM own tg c el (xs.drop (i + 1)) s2 acc).All (fun q => QV C σ Q (.own q.1, backS own s1 q.2)) (fun _ _ => False), fun H'' ⟨F3, d3, s3, acc3, a1, a2, a3⟩ => ⟨xs.length - (i + 1), by omega, F3, d3, s3, acc3, a1, rfl, hlt, a2, a3⟩, fun x H3 hy => ?_⟩
      have ex : xs[i]? = some xs[i] := List.getElem?_eq_getElem hlt
      have ed : xs.drop i = xs[i] :: xs.drop (i + 1) := List.drop_eq_getElem_cons hlt
      rw [ed] at hM
      obtain ⟨F3, sf3, dv3, k3⟩ := wk.yld (C.now F1 d1) i xs[i] F2 H' d2 x H3 rfl ex r2.w.ff r2.w hy
      have r3 : Rel1 (C.now F1 d1) F3 H3 d2 (wipe σ own) s2 (.ref D) (.own acc) := k3 _ _ r2
      obtain ⟨vs, eD, dvs, f0, b0, r4⟩ := r3.plus
      have hM' : ((M.ofOpt (tg xs[i] s2)).bind fun s1 => (c s1).bind fun q => match q.1 with
        | true => (fz (el q.2)).bind fun p => compM own tg c el (xs.drop (i + 1)) (wipeS own p.2) (acc ++ [p.1])
        | false => compM own tg c el (xs.drop (i + 1)) (wipeS own q.2) acc).All (fun q => QV C σ Q (.own q.1, backS own s1 q.2)) (fun _ _ => False) := hM
      obtain ⟨s5, e5, hM'⟩ := M.all_ofOpt ((M.all_bind _).mp hM')
      refine ⟨(C.now F1 d1).plus D vs, F3, d2, s2, xs[i], s5, hY, r4, dv3, e5, fun σ2 r5 g5 => ⟨wipe_agree g5 hn, ?_⟩⟩
      have w5 := wipe_agree g5 hn
      -- the context within: no exception
      refine ⟨(((C.now F1 d1).plus D vs).now F3 d2).mute, F3, d2, s5, hY, rfl, r5.now.mute, ((M.all_bind _).mp hM').mono (fun b hb F6 H6 d6 r6 => ?_) fun _ _ z => z.elim⟩
      obtain ⟨b, s6⟩ := b
      have sf6 : Same F3 F6 := r6.unmute.w.ff
      have r6' : Rel ((C.now F1 d1).plus D vs) F6 H6 d6 σ2 s6 := Rel.unnow r5.w r6.unmute
      have fin : ∀ {F7 H7 : Hp} {d7 : List (Addr × Addr)} {s7 : S}, Rel ((C.now F1 d1).plus D vs) F7 H7 d7 σ2 s7 → Rel ((C.now F1 d1).plus D vs) F7 H7 d7 (wipe σ own) (wipeS own s7) := fun {F7 H7 d7 s7} r7 => by
        have := r7.wipe_ own
        rw [w5] at this
        exact this
      cases b with
      | false =>
        rw [if_neg Bool.false_ne_true]
        obtain ⟨_, r7⟩ := Rel.unplus (xs := acc) f0 b0 (fin r6') (DvL.mono sf6 _ _ dvs)
        exact ⟨F6, d6, _, acc, r7, by omega, hb⟩
      | true =>
        rw [if_pos rfl]
        refine ⟨(((C.now F1 d1).plus D vs).now F6 d6).mute, F6, d6, s6, hY, rfl, r6'.now.mute, ((M.all_bind _).mp hb).mono (fun p hp F7 H7 d7 y r7 hy => ?_) fun _ _ z => z.elim⟩
        obtain ⟨y', s7⟩ := p
        have sf7 : Same F6 F7 := r7.unmute.w.ff
        have r7' : Rel ((C.now F1 d1).plus D vs) F7 H7 d7 σ2 s7 := Rel.unnow r6'.w r7.unmute
        have dv7 : DvL C.K F7 vs acc := DvL.mono (sf6.trans sf7) _ _ dvs
        obtain ⟨e8, r8⟩ := Rel.unplus (xs := acc) f0 b0 (fin r7') dv7
        exact ⟨vs, e8, by rw [dvs.length, line_eq]; omega, F7, d7, _, acc ++ [y'], r8.upd_ (dv7.append (.cons hy .nil)), by rw [List.length_append, List.length_singleton]; omega, hp⟩
    · have e : i = xs.length := by omega
      subst e
      have hM' : (M.ret (acc, s2)).All (fun q => QV C σ Q (.own q.1, backS own s1 q.2)) (fun _ _ => False) := by
        have q0 := hM
        rw [List.drop_length] at q0
        exact q0
      exact .inl ⟨wk.stop (C.now F1 d1) F2 H' d2 rfl r2.w.ff r2.w, hM' F2 H' d2 (.ref D) (r1.back r2)⟩
end
end TP
end

section
set_option linter.all false
set_option maxRecDepth 100000
/-! The methods of a list of one's own; statements. -/
namespace TP
open PySem L2 PySem.Spec PyProof.Rows
section
variable {C : Ct} {F H : Hp} {dk : List (Addr × Addr)} {σ : LS} {s : S} {v : V} {x : Vl}
theorem isOwn_eq {o : Option Vl} {xs : List D} (h : isOwn o = some xs) : o = some (.own xs) := by
  match o, h with
  | some (.own ys), h => rw [show ys = xs from Option.some.inj h]
theorem intV_eq {o : Option Vl} {i : Int} (h : intV o = some i) : o = some (.d (.int i)) := by
  match o, h with
  | some (.d (.int j)), h => rw [show j = i from Option.some.inj h]
theorem intD_eq {x : D} {i : Int} (h : intD x = some i) : x = .int i := by
  match x, h with
  | .int j, h => rw [show j = i from Option.some.inj h]
theorem lstD_eq {x : D} {ys : List D} (h : lstD x = some ys) : x = .list ys := by
  match x, h with
  | .list zs, h => rw [show zs = ys from Option.some.inj h]
/-- a value alone: the slots are forgotten -/
theorem Rel1.only (r : Rel1 C F H dk σ s v x) : Rel1 C F H dk [] [] v x := by
  obtain ⟨fp, h1, h2⟩ := r.sl
  refine ⟨r.w, rfl, fun j => match j with | 0 => fp 0 | _ + 1 => [], fun j => ?_, fun i j a ha hb => ?_⟩
  · cases j with
    | zero => exact h1 0
    | succ j => exact .no _
  · cases i with
    | zero =>
      cases j with
      | zero => rfl
      | succ j => cases hb
    | succ i => cases ha
/-- the slot's value given back -/
theorem Rel.takeAt (r : Rel C F H dk σ s) {i : Nat} (e : gt s i = some x) : ∃ v, σ[i]? = some (some v) ∧ Rel1 C F H dk [] [] v x := by
  obtain ⟨v, fp, ev, _⟩ := r.at e
  exact ⟨v, ev, (r.takeOut e ev none).only⟩
end
theorem popIx_eq {n : Nat} {k : Int} {j : Nat} (h : popIx n k = some j) : -(2 ^ 63) ≤ k ∧ k < 2 ^ 63 ∧ L2.ixN n k = some j := by
  unfold popIx at h
  by_cases hc : -(2 ^ 63) ≤ k ∧ k < 2 ^ 63
  · rw [if_pos hc] at h
    exact ⟨hc.1, hc.2, h⟩
  · rw [if_neg hc] at h
    cases h
/-! ### the readings -/
def QFl (C : Ct) (D : Ends) : Fl → Prop
  | .nx s => ∀ F H dk σ, Rel C F H dk σ s → D.nx σ H
  | .bk s => ∀ F H dk σ, Rel C F H dk σ s → D.bk σ H
  | .ct s => ∀ F H dk σ, Rel C F H dk σ s → D.ct σ H
  | .rt v => ∀ F H dk w, Rel1 C F H dk [] [] w v → D.rt w H
def tS (Y : Fx) (E : XK) (f : S → M Fl) : TS := fun D σ H => ∃ C F dk s, C.toFx = Y ∧ C.E = E ∧ Rel C F H dk σ s ∧ (f s).All (QFl C D) (RPost C)
theorem ps_imp {X : Cx} {st : Stmt} {t t' : TS} (h : PS X st t) (w : ∀ D σ H, t' D σ H → t D σ H) : PS X st t' := ⟨fun pins s σ H D I q => h.run pins s σ H D I (w D σ H q)⟩
theorem pss_imp {X : Cx} {st : List Stmt} {t t' : TS} (h : PSs X st t) (w : ∀ D σ H, t' D σ H → t D σ H) : PSs X st t' := ⟨fun pins s σ H D I q => h.run pins s σ H D I (w D σ H q)⟩
section
variable {Y : Fx} {E : XK} {X : Cx} {e : Expr} {es : List Expr} {x : Str} {p apos cpos pos : Pos} {i : Nat}
/-! ### pop, append, extend -/
theorem hbase_nm {env : Env} {name : Str} : attributeBase (.Name x p) name env (eval (.Name x p) env) = eval (.Name x p) env := rfl
theorem hfew1 {env : Env} (hp : plainE e = true) : ((backTo cpos (starEach [e] env)).all (fun x => !x.1) && (backToKw cpos (keywordEach [] env)).all (fun x => x.1.isSome)
      && decide (([e] : List Expr).length + ([] : List Keyword).length + (if ([] : List Keyword).isEmpty then 0 else 1) < 30)) = true := by
  rw [star_cons hp]
  rfl
theorem so_pop (hv : PE X (.Name x p) (tVar i)) (hl : (apos.endLine == cpos.line) = true) :
    PE X (.Call (.Attribute (.Name x p) "pop" apos) [] [] cpos) (tV Y E fun s => (M.ofOpt (isOwn (gt s i))).bind fun xs => (M.ofOpt xs.getLast?).bind fun x => .ret (.d x, s.set i (some (.own xs.dropLast)))) := by
  refine pe_imp (pe_bm0 PySem.F.plainAttrs_list PySem.F.slot_list_pop PySem.F.type_list_pop mt_pop hv hbase_nm hl) fun σ H Q ⟨C, F, dk, s, hY, hE, r, q⟩ => ?_
  obtain ⟨xs, e1, q⟩ := M.all_ofOpt ((M.all_bind _).mp q)
  obtain ⟨y, e2, q⟩ := M.all_ofOpt ((M.all_bind _).mp q)
  obtain ⟨a, vs, ev, ha, dv, k⟩ := r.ownAt (isOwn_eq e1)
  rw [List.getLast?_eq_getElem?] at e2
  obtain ⟨z, ez, dz⟩ := dv.get e2
  refine ⟨.ref a, ev, .inl ⟨rfl, vs, SqL.of ha⟩, a, vs, z, rfl, rfl, ha, ?_, q F _ dk z ((k _ _ dv.dropLast).with_d dz)⟩
  rw [dv.length]
  exact ez
theorem so_popAt (hv : PE X (.Name x p) (tVar i)) (hp : plainE e = true) {f : S → M (Vl × S)} (he : PE X e (tV Y E f)) (hl : (apos.endLine == cpos.line) = true) :
    PE X (.Call (.Attribute (.Name x p) "pop" apos) [e] [] cpos) (tV Y E fun s => (M.ofOpt (isOwn (gt s i))).bind fun _ => (fz (f s)).bind fun r => (M.ofOpt (isOwn (gt r.2 i))).bind fun xs => (M.ofOpt (intD r.1)).bind fun k => (M.ofOpt (popIx xs.length k)).bind fun j => (M.ofOpt xs[j]?).bind fun x => .ret (.d x, r.2.set i (some (.own (xs.eraseIdx j))))) := by
  refine pe_imp (pe_bm PySem.F.plainAttrs_list PySem.F.slot_list_pop PySem.F.type_list_pop mt_popAt hv (pa_cons (so_fz he) pa_nil (star_cons hp)) hbase_nm (hfew1 hp) hl (star_cons hp) rfl) fun σ H Q ⟨C, F, dk, s, hY, hE, r, q⟩ => ?_
  obtain ⟨xs0, e0, q⟩ := M.all_ofOpt ((M.all_bind _).mp q)
  obtain ⟨a, vs, ev, ha, dv, k⟩ := r.ownAt (isOwn_eq e0)
  refine ⟨.ref a, ev, .inl ⟨rfl, vs, SqL.of ha⟩, oneF hY hE r (fun _ _ z => z) q fun F1 H1 d1 y s1 z r1 h1 hq => ?_⟩
  obtain ⟨xs, e1, hq⟩ := M.all_ofOpt ((M.all_bind _).mp hq)
  obtain ⟨ix, e2, hq⟩ := M.all_ofOpt ((M.all_bind _).mp hq)
  obtain ⟨j, e3, hq⟩ := M.all_ofOpt ((M.all_bind _).mp hq)
  obtain ⟨w, e4, hq⟩ := M.all_ofOpt ((M.all_bind _).mp hq)
  obtain ⟨a', vs', ev', ha', dv', k'⟩ := r1.ownAt (isOwn_eq e1)
  rw [ev] at ev'
  cases ev'
  have ey := intD_eq e2
  subst ey
  cases h1
  obtain ⟨u, eu, du⟩ := dv'.get e4
  obtain ⟨b1, b2, e5⟩ := popIx_eq e3
  refine ⟨a, vs', ix, j, u, rfl, rfl, ha', b1, b2, ?_, eu, hq F1 _ d1 u ((k' _ _ (dv'.eraseIdx j)).with_d du)⟩
  rw [dv'.length]
  exact (ixN_seq e5).1
/-- x.append(e), x.extend(e) -/
theorem ap_rd {f : S → M (Vl × S)} {σ : LS} {H : Hp} {D : Ends} (q : tS Y E (fun s => (M.ofOpt (isOwn (gt s i))).bind fun _ => (fz (f s)).bind fun r => (M.ofOpt (isOwn (gt r.2 i))).bind fun xs => (M.ofOpt (if xs.length < 16777216 then some () else none)).bind fun _ => .ret (.nx (r.2.set i (some (.own (xs ++ [r.1])))))) D σ H) :
    tDrop (tBM X.K "list" rAppend (tVar i) (tCons (tF Y E fun s => fz (f s)) tNil)) D σ H := by
  obtain ⟨C, F, dk, s, hY, hE, r, q⟩ := q
  obtain ⟨xs0, e0, q⟩ := M.all_ofOpt ((M.all_bind _).mp q)
  obtain ⟨a, vs, ev, ha, dv, k⟩ := r.ownAt (isOwn_eq e0)
  refine ⟨.ref a, ev, .inl ⟨rfl, vs, SqL.of ha⟩, oneF hY hE r (fun _ _ z => z) q fun F1 H1 d1 y s1 z r1 h1 hq => ?_⟩
  obtain ⟨xs, e1, hq⟩ := M.all_ofOpt ((M.all_bind _).mp hq)
  obtain ⟨_, e2, hq⟩ := M.all_ofOpt ((M.all_bind _).mp hq)
  obtain ⟨a', vs', ev', ha', dv', k'⟩ := r1.ownAt (isOwn_eq e1)
  rw [ev] at ev'
  cases ev'
  refine ⟨a, vs', z, rfl, rfl, ha', ?_, hq F1 _ d1 σ (k' _ _ (dv'.append (.cons h1 .nil)))⟩
  rw [dv'.length, line_eq]
  exact (ite_some e2).1
theorem st_append (hv : PE X (.Name x p) (tVar i)) (hp : plainE e = true) {f : S → M (Vl × S)} (he : PE X e (tV Y E f)) (hl : (apos.endLine == cpos.line) = true) :
    PS X (.Expr (.Call (.Attribute (.Name x p) "append" apos) [e] [] cpos) pos) (tS Y E fun s => (M.ofOpt (isOwn (gt s i))).bind fun _ => (fz (f s)).bind fun r => (M.ofOpt (isOwn (gt r.2 i))).bind fun xs => (M.ofOpt (if xs.length < 16777216 then some () else none)).bind fun _ => .ret (.nx (r.2.set i (some (.own (xs ++ [r.1])))))) :=
  ps_imp (ps_expr (pe_bm PySem.F.plainAttrs_list PySem.F.slot_list_append PySem.F.type_list_append mt_append hv (pa_cons (so_fz he) pa_nil (star_cons hp)) hbase_nm (hfew1 hp) hl (star_cons hp) rfl)) fun D σ H q => ap_rd q
/-- extend by a list, given away or one's own -/
def rExtendD (K : Frag) : V → List V → Hp → VK → Prop := fun x vs H Q => ∃ l b xs zs, x = .ref l ∧ vs = [.ref b] ∧ H l = some (.lst xs) ∧ H b = some (.lst zs) ∧ xs.length + zs.length ≤ sizeLine ∧ Q .non (upd H l (.lst (xs ++ zs)))
theorem st_extend (hv : PE X (.Name x p) (tVar i)) (hp : plainE e = true) {f : S → M (Vl × S)} (he : PE X e (tV Y E f)) (hl : (apos.endLine == cpos.line) = true) :
    PS X (.Expr (.Call (.Attribute (.Name x p) "extend" apos) [e] [] cpos) pos) (tS Y E fun s => (M.ofOpt (isOwn (gt s i))).bind fun _ => (fz (f s)).bind fun r => (M.ofOpt (isOwn (gt r.2 i))).bind fun xs => (M.ofOpt (lstD r.1)).bind fun ys => (M.ofOpt (if xs.length + ys.length ≤ 16777216 then some () else none)).bind fun _ => .ret (.nx (r.2.set i (some (.own (xs ++ ys)))))) := by
  refine ps_imp (ps_expr (pe_bm PySem.F.plainAttrs_list PySem.F.slot_list_extend PySem.F.type_list_extend mt_extend hv (pa_cons (so_fz he) pa_nil (star_cons hp)) hbase_nm (hfew1 hp) hl (star_cons hp) rfl)) fun D σ H ⟨C, F, dk, s, hY, hE, r, q⟩ => ?_
  obtain ⟨xs0, e0, q⟩ := M.all_ofOpt ((M.all_bind _).mp q)
  obtain ⟨a, vs, ev, ha, dv, k⟩ := r.ownAt (isOwn_eq e0)
  refine ⟨.ref a, ev, .inl ⟨rfl, vs, SqL.of ha⟩, oneF hY hE r (fun _ _ z => z) q fun F1 H1 d1 y s1 z r1 h1 hq => ?_⟩
  obtain ⟨xs, e1, hq⟩ := M.all_ofOpt ((M.all_bind _).mp hq)
  obtain ⟨ys, e2, hq⟩ := M.all_ofOpt ((M.all_bind _).mp hq)
  obtain ⟨_, e3, hq⟩ := M.all_ofOpt ((M.all_bind _).mp hq)
  obtain ⟨a', vs', ev', ha', dv', k'⟩ := r1.ownAt (isOwn_eq e1)
  rw [ev] at ev'
  cases ev'
  have ey := lstD_eq e2
  subst ey
  cases h1 with
  | @lst b ws _ eb dw =>
    refine ⟨a, b, vs', ws, rfl, rfl, ha', r1.w.fh _ _ eb, ?_, hq F1 _ d1 σ (k' _ _ (dv'.append dw))⟩
    rw [dv'.length, dw.length, line_eq]
    exact (ite_some e3).1
/-! ### assignments -/
theorem asg_rd {f : S → M (Vl × S)} {σ : LS} {H : Hp} {D : Ends} (q : tS Y E (fun s => (f s).bind fun r => .ret (.nx (r.2.set i (some r.1)))) D σ H) : tAsg (tV Y E f) (gName i) D σ H := by
  obtain ⟨C, F, dk, s, hY, hE, r, q⟩ := q
  exact ⟨C, F, dk, s, hY, hE, r, ((M.all_bind _).mp q).mono (fun p hp F1 H1 d1 v r1 => hp F1 H1 d1 _ (r1.store i)) fun _ _ z => z⟩
theorem st_asg (hN : X.N.Nodup) (hi : X.N[i]? = some x) (hx : Loc X.env.scope x) (hf : X.fn x = true ∨ X.env.scope.names.lookup x = some .local) {f : S → M (Vl × S)} (he : PE X e (tV Y E f)) (hs : swapsWith e (some (.Name x p)) pos.line X.env = pure false) :
    PS X (.Assign [.Name x p] e pos) (tS Y E fun s => (f s).bind fun r => .ret (.nx (r.2.set i (some r.1)))) :=
  ps_imp (ps_set hN hi hx he hs hf) fun D σ H q => asg_rd q
theorem asgT_rd {tg : D → S → Option S} {ns : List Nat} {f : S → M (Vl × S)} {σ : LS} {H : Hp} {D : Ends} (q : tS Y E (fun s => (fz (f s)).bind fun r => (M.ofOpt (tg r.1 r.2)).bind fun s => .ret (.nx s)) D σ H) : tAsg (tF Y E fun s => fz (f s)) (tG Y ns tg) D σ H := by
  obtain ⟨C, F, dk, s, hY, hE, r, q⟩ := q
  refine oneF hY hE r (fun _ _ z => z) q fun F1 H1 d1 y s1 z r1 h1 hq => ?_
  obtain ⟨s2, e1, hq⟩ := M.all_ofOpt ((M.all_bind _).mp hq)
  exact ⟨C, F1, d1, s1, y, s2, hY, r1, h1, e1, fun σ' r' _ => hq F1 H1 d1 σ' r'⟩
theorem st_asgT {tg : Expr} {g : D → S → Option S} {ns : List Nat} {f : S → M (Vl × S)} (hp : plainE tg = true) (hg : PG X tg (tG Y ns g)) (he : PE X e (tV Y E f)) (hs : swapsWithSole [tg] e pos.line X.env = pure false) (hw : swappedStores [tg] e X.env = pure none) :
    PS X (.Assign [tg] e pos) (tS Y E fun s => (fz (f s)).bind fun r => (M.ofOpt (g r.1 r.2)).bind fun s => .ret (.nx s)) :=
  ps_imp (ps_asg (so_fz he) hg hs hw (assignEach_cons hp)) fun D σ H q => asgT_rd q
/-! ### i += e -/
theorem st_aug {o : Op} {op : Operator} (hop : (o = .add ∧ op = .Add) ∨ (o = .sub ∧ op = .Sub)) (hN : X.N.Nodup) (hi : X.N[i]? = some x) (hx : Loc X.env.scope x) (hf : X.fn x = true ∨ X.env.scope.names.lookup x = some .local) {f : S → M (Vl × S)} (he : PE X e (tV Y E f)) :
    PS X (.AugAssign (.Name x p) op e pos) (tS Y E fun s => (M.ofOpt (intV (gt s i))).bind fun x => (fz (f s)).bind fun r => (M.ofOpt (intD r.1)).bind fun y => (M.ofOpt (augD o x y)).bind fun z => .ret (.nx (r.2.set i (some (.d (.int z)))))) := by
  have key : ∀ (g : Int → Int → Int) (σ : LS) (H : Hp) (D : Ends), (∀ x y, augD o x y = some (g x y)) → tS Y E (fun s => (M.ofOpt (intV (gt s i))).bind fun x => (fz (f s)).bind fun r => (M.ofOpt (intD r.1)).bind fun y => (M.ofOpt (augD o x y)).bind fun z => .ret (.nx (r.2.set i (some (.d (.int z)))))) D σ H →
      tAug i (tF Y E fun s => fz (f s)) (ipI g) D σ H := fun g σ H D hg ⟨C, F, dk, s, hY, hE, r, q⟩ => by
    obtain ⟨n, e0, q⟩ := M.all_ofOpt ((M.all_bind _).mp q)
    obtain ⟨v, fp, ev, sr⟩ := r.at (intV_eq e0)
    cases sr with
    | d h0 =>
      cases h0
      refine ⟨_, ev, oneF hY hE r (fun _ _ z => z) q fun F1 H1 d1 y s1 z r1 h1 hq => ?_⟩
      obtain ⟨m, e1, hq⟩ := M.all_ofOpt ((M.all_bind _).mp hq)
      obtain ⟨k, e2, hq⟩ := M.all_ofOpt ((M.all_bind _).mp hq)
      have ey := intD_eq e1
      subst ey
      cases h1
      rw [hg] at e2
      have ek := Option.some.inj e2
      subst ek
      exact ⟨n, m, rfl, rfl, hq F1 H1 d1 _ ((r1.with_d (.int _)).store i)⟩
  rcases hop with ⟨e1, e2⟩ | ⟨e1, e2⟩
  · subst e1 e2
    exact ps_imp (ps_aug hN hi hx (so_fz he) ip_add hf) fun D σ H q => key (fun i j => i + j) σ H D (fun _ _ => rfl) q
  · subst e1 e2
    exact ps_imp (ps_aug hN hi hx (so_fz he) ip_sub hf) fun D σ H q => key (fun i j => i - j) σ H D (fun _ _ => rfl) q
/-! ### x[a] = b -/
theorem st_setIx {a b : Expr} {tpos : Pos} (hv : PE X (.Name x p) (tVar i)) {f g : S → M (Vl × S)} (ha : PE X a (tV Y E g)) (hb : PE X b (tV Y E f)) (hs : swapsWithSole [.Subscript (.Name x p) a tpos] b pos.line X.env = pure false) (hw : swappedStores [.Subscript (.Name x p) a tpos] b X.env = pure none)
    (hass : ∀ v, assign (.Subscript (.Name x p) a tpos) X.env v = (do
      let ov ← holding [v] (eval (.Name x p) X.env)
      let iv ← holding [v, ov] (eval a X.env)
      standAt tpos
      holding [v, ov, iv] (setItem ov iv v)
      release [v, ov, iv] [])) :
    PS X (.Assign [.Subscript (.Name x p) a tpos] b pos) (tS Y E fun s => (fz (f s)).bind fun r => (M.ofOpt (isOwn (gt r.2 i))).bind fun _ => (fz (g r.2)).bind fun q => (M.ofOpt (isOwn (gt q.2 i))).bind fun xs => (M.ofOpt (intD q.1)).bind fun k => (M.ofOpt (L2.ixN xs.length k)).bind fun j => .ret (.nx (q.2.set i (some (.own (xs.set j r.1)))))) := by
  refine ps_imp (ps_asg (so_fz hb) (pg_sub hv (so_fz ha) set_list hass) hs hw rfl) fun D σ H ⟨C, F, dk, s, hY, hE, r, q⟩ => ?_
  refine oneF hY hE r (fun _ _ z => z) q fun F1 H1 d1 y s1 z r1 h1 hq => ?_
  obtain ⟨xs0, e0, hq⟩ := M.all_ofOpt ((M.all_bind _).mp hq)
  obtain ⟨l, vs, ev, hl, dv, k⟩ := r1.ownAt (isOwn_eq e0)
  refine ⟨.ref l, ev, oneF (C := C.now F1 d1) hY hE r1.now (fun c z hz => hz.now r1.w) hq fun F2 H2 d2 y2 s2 z2 r2 h2 hq => ?_⟩
  obtain ⟨xs, e1, hq⟩ := M.all_ofOpt ((M.all_bind _).mp hq)
  obtain ⟨ix, e2, hq⟩ := M.all_ofOpt ((M.all_bind _).mp hq)
  obtain ⟨j, e3, hq⟩ := M.all_ofOpt ((M.all_bind _).mp hq)
  have r2' := r2.unnow r1.w
  obtain ⟨l', vs', ev', hl', dv', k'⟩ := r2'.ownAt (isOwn_eq e1)
  rw [ev] at ev'
  cases ev'
  have ey := intD_eq e2
  subst ey
  cases h2
  exact ⟨l, vs', ix, j, rfl, rfl, hl', by rw [dv'.length]; exact e3, hq F2 _ d2 σ (k' _ _ (dv'.set (Dv.mono r2.w.ff _ _ h1) j))⟩
/-! ### the rest -/
theorem st_expr {f : S → M (Vl × S)} (he : PE X e (tV Y E f)) (hs : swapsWith e none pos.line X.env = pure false) : PS X (.Expr e pos) (tS Y E fun s => (f s).bind fun r => .ret (.nx r.2)) :=
  ps_imp (ps_expr he hs) fun D σ H ⟨C, F, dk, s, hY, hE, r, q⟩ => ⟨C, F, dk, s, hY, hE, r, ((M.all_bind _).mp q).mono (fun p hp F1 H1 d1 v r1 => hp F1 H1 d1 σ r1.tail) fun _ _ z => z⟩
theorem st_ret {f : S → M (Vl × S)} (he : PE X e (tV Y E f)) : PS X (.Return (some e) pos) (tS Y E fun s => (f s).bind fun r => .ret (.rt r.1)) :=
  ps_imp (ps_ret he) fun D σ H ⟨C, F, dk, s, hY, hE, r, q⟩ => ⟨C, F, dk, s, hY, hE, r, ((M.all_bind _).mp q).mono (fun p hp F1 H1 d1 v r1 => hp F1 H1 d1 v r1.only) fun _ _ z => z⟩
theorem st_retV (hv : PE X e (tVar i)) : PS X (.Return (some e) pos) (tS Y E fun s => (M.ofOpt (gt s i)).bind fun v => .ret (.rt v)) :=
  ps_imp (ps_ret hv) fun D σ H ⟨C, F, dk, s, hY, hE, r, q⟩ => by
    obtain ⟨x, e1, q⟩ := M.all_ofOpt ((M.all_bind _).mp q)
    obtain ⟨v, ev, r1⟩ := r.takeAt e1
    exact ⟨v, ev, q F H dk v r1⟩
theorem st_retN : PS X (.Return none pos) (tS Y E fun s => .ret (.rt (.d .none))) :=
  ps_imp ps_retN fun D σ H ⟨C, F, dk, s, hY, hE, r, q⟩ => q F H dk .non (r.with_d .non).only
theorem st_pass : PS X (.Pass pos) (tS Y E fun s => .ret (.nx s)) := ps_imp ps_pass fun D σ H ⟨C, F, dk, s, hY, hE, r, q⟩ => q F H dk σ r
theorem st_brk : PS X (.Break pos) (tS Y E fun s => .ret (.bk s)) := ps_imp ps_break fun D σ H ⟨C, F, dk, s, hY, hE, r, q⟩ => q F H dk σ r
theorem st_cont : PS X (.Continue pos) (tS Y E fun s => .ret (.ct s)) := ps_imp ps_continue fun D σ H ⟨C, F, dk, s, hY, hE, r, q⟩ => q F H dk σ r
theorem st_never {st : Stmt} : PS X st (tS Y E fun _ => .stuck) := ps_imp ps_never fun D σ H ⟨C, F, dk, s, hY, hE, r, q⟩ => q
theorem st_nil : PSs X [] (tS Y E fun s => .ret (.nx s)) := pss_imp pss_nil fun D σ H ⟨C, F, dk, s, hY, hE, r, q⟩ => q F H dk σ r
theorem st_cons {st : Stmt} {rest : List Stmt} {f g : S → M Fl} (h1 : PS X st (tS Y E f)) (h2 : PSs X rest (tS Y E g)) : PSs X (st :: rest) (tS Y E fun s => (f s).bind fun q => match q with
      | .nx s => g s
      | q => .ret q) := by
  refine pss_imp (pss_cons h1 h2) fun D σ H ⟨C, F, dk, s, hY, hE, r, q⟩ => ?_
  refine ⟨C, F, dk, s, hY, hE, r, ((M.all_bind _).mp q).mono (fun p hp => ?_) fun _ _ z => z⟩
  match p, hp with
  | .nx s, hp => exact fun F1 H1 d1 σ1 r1 => ⟨C, F1, d1, s, hY, hE, r1, hp⟩
  | .rt v, hp => exact hp
  | .bk s, hp => exact hp
  | .ct s, hp => exact hp
theorem st_ite {c : Expr} {as bs : List Stmt} {f : S → M (Bool × S)} {g h : S → M Fl} (hc : PT X c (tBo Y E f)) (ha : PSs X as (tS Y E g)) (hb : PSs X bs (tS Y E h)) : PS X (.If c as bs pos) (tS Y E fun s => (f s).bind fun r => match r.1 with
      | true => g r.2
      | false => h r.2) := by
  refine ps_imp (ps_if hc ha hb) fun D σ H ⟨C, F, dk, s, hY, hE, r, q⟩ => ?_
  refine ⟨C, F, dk, s, hY, hE, r, ((M.all_bind _).mp q).mono (fun p hp F1 H1 d1 r1 => ?_) fun _ _ z => z⟩
  obtain ⟨b, s1⟩ := p
  cases b with
  | true => rw [if_pos rfl]; exact ⟨C, F1, d1, s1, hY, hE, r1, hp⟩
  | false => rw [if_neg Bool.false_ne_true]; exact ⟨C, F1, d1, s1, hY, hE, r1, hp⟩
theorem st_whil {c : Expr} {bs : List Stmt} {f : S → M (Bool × S)} {g : S → M Fl} (n : Nat) (hp : PassesOwn (model X.prog X.w) X.A X.env X.xe) (hc : PT X c (tBo Y E f)) (hb : PSs X bs (tS Y E g)) : PS X (.While c bs [] pos) (tS Y E fun s => whileM f g n s) := by
  refine ps_imp (ps_while hp hc hb) fun D σ H ⟨C, F, dk, s, hY, hE, r, q⟩ => ?_
  refine ⟨fun m σ H => ∃ F dk s, Rel C F H dk σ s ∧ (whileM f g m s).All (QFl C D) (RPost C), ⟨n, F, dk, s, r, q⟩, fun m σ1 H1 ⟨F1, d1, s1, r1, q1⟩ => ?_⟩
  cases m with
  | zero => exact q1.elim
  | succ m =>
    refine ⟨C, F1, d1, s1, hY, hE, r1, ((M.all_bind _).mp q1).mono (fun p hp F2 H2 d2 r2 => ?_) fun _ _ z => z⟩
    obtain ⟨b, s2⟩ := p
    cases b with
    | false => rw [if_neg Bool.false_ne_true]; exact hp F2 H2 d2 σ1 r2
    | true =>
      rw [if_pos rfl]
      refine ⟨fun σ' H' => ∃ F dk s, Rel C F H' dk σ' s ∧ (whileM f g m s).All (QFl C D) (RPost C), fun σ' H' ⟨F3, d3, s3, r3, q3⟩ => ⟨m, Nat.lt_succ_self m, F3, d3, s3, r3, q3⟩, C, F2, d2, s2, hY, hE, r2, ((M.all_bind _).mp hp).mono (fun fl hfl => ?_) fun _ _ z => z⟩
      match fl, hfl with
      | .nx s, h => exact fun F3 H3 d3 σ3 r3 => ⟨F3, d3, s, r3, h⟩
      | .ct s, h => exact fun F3 H3 d3 σ3 r3 => ⟨F3, d3, s, r3, h⟩
      | .bk s, h => exact h
      | .rt v, h => exact h
theorem QFl.now {C : Ct} {F H : Hp} {dk : List (Addr × Addr)} {D : Ends} (w : Wd C F H dk) {fl : Fl} (h : QFl C D fl) : QFl (C.now F dk) D fl := by
  match fl, h with
  | .nx s, h => exact fun F1 H1 d1 σ r => h F1 H1 d1 σ (Rel.unnow w r)
  | .ct s, h => exact fun F1 H1 d1 σ r => h F1 H1 d1 σ (Rel.unnow w r)
  | .bk s, h => exact fun F1 H1 d1 σ r => h F1 H1 d1 σ (Rel.unnow w r)
  | .rt v, h => exact fun F1 H1 d1 u r => h F1 H1 d1 u (Rel.unnow w r)
theorem st_for {tg it : Expr} {bs : List Stmt} {f : S → M (List D × S)} {t : D → S → Option S} {ns : List Nat} {g : S → M Fl} (hp : PassesOwn (model X.prog X.w) X.A X.env X.xe) (hcm : X.calm = true) (hi : PI X tg it (tI Y E f)) (hg : PG X tg (tG Y ns t)) (hb : PSs X bs (tS Y E g))
    (hs : ∀ x, foldedSetIterable it X.env x = pure x) : PS X (.For tg it bs [] pos) (tS Y E fun s => (f s).bind fun r => forM t g r.1 r.2) := by
  refine ps_imp (ps_for hp hcm hi hg hb hs) fun D σ H ⟨C, F, dk, s, hY, hE, r, q⟩ => ?_
  refine ⟨C, F, dk, s, hY, hE, r, ((M.all_bind _).mp q).mono (fun p hp F1 H1 d1 J r1 wk => ?_) fun _ _ z => z⟩
  obtain ⟨xs, s1⟩ := p
  have hp' : (forM t g xs s1).All (QFl (C.now F1 d1) D) (RPost (C.now F1 d1)) := M.All.mono hp (fun fl h => QFl.now r1.w h) fun c z hz => hz.now r1.w
  refine ⟨fun i m σ H => ∃ F d s, Rel (C.now F1 d1) F H d σ s ∧ m = xs.length - i ∧ i ≤ xs.length ∧ (forM t g (xs.drop i) s).All (QFl (C.now F1 d1) D) (RPost (C.now F1 d1)), ⟨xs.length, F1, d1, s1, r1.now, rfl, Nat.zero_le _, hp'⟩, fun i m σ2 H2 ⟨F2, d2, s2, r2, em, hi, hM⟩ => ?_⟩
  by_cases hlt : i < xs.length
  · refine .inr ⟨wk.go (C.now F1 d1) i F2 H2 d2 rfl hlt r2.w.ff r2.w, fun σ' H' => ∃ F d s, Rel (C.now F1 d1) F H' d σ' s ∧ (forM t g (xs.drop (i + 1)) s).All (QFl (C.now F1 d1) D) (RPost (C.now F1 d1)), fun σ' H' ⟨F3, d3, s3, r3, q3⟩ => ⟨xs.length - (i + 1), by omega, F3, d3, s3, r3, rfl, hlt, q3⟩, fun x H3 hy => ?_⟩
    have ex : xs[i]? = some xs[i] := List.getElem?_eq_getElem hlt
    have ed : xs.drop i = xs[i] :: xs.drop (i + 1) := List.drop_eq_getElem_cons hlt
    rw [ed] at hM
    obtain ⟨F3, sf3, dv3, k3⟩ := wk.yld (C.now F1 d1) i xs[i] F2 H2 d2 x H3 rfl ex r2.w.ff r2.w hy
    have r3 := k3 _ _ r2
    obtain ⟨s4, e4, hM⟩ := M.all_ofOpt ((M.all_bind (M.ofOpt (t xs[i] s2))).mp hM)
    refine ⟨C.now F1 d1, F3, d2, s2, xs[i], s4, hY, r3, dv3, e4, fun σ4 r4 _ => ⟨C.now F1 d1, F3, d2, s4, hY, hE, r4, ((M.all_bind _).mp hM).mono (fun fl hfl => ?_) fun _ _ z => z⟩⟩
    match fl, hfl with
    | .nx s, h => exact fun F5 H5 d5 σ5 r5 => ⟨F5, d5, s, r5, h⟩
    | .ct s, h => exact fun F5 H5 d5 σ5 r5 => ⟨F5, d5, s, r5, h⟩
    | .bk s, h => exact h
    | .rt v, h => exact h
  · have e : i = xs.length := by omega
    subst e
    rw [List.drop_length] at hM
    exact .inl ⟨wk.stop (C.now F1 d1) F2 H2 d2 rfl r2.w.ff r2.w, hM F2 H2 d2 σ2 r2⟩
end
end TP
end

section
set_option linter.all false
set_option maxRecDepth 100000
/-! a, b = x, y. -/
namespace TP
open PySem L2 PySem.Spec PyProof.Rows
section
variable {C : Ct} {F H : Hp} {dk : List (Addr × Addr)} {σ : LS} {s : S} {v : V} {x : Vl}
theorem wd_unplus {a : Addr} {vs : List V} (b0 : C.B a = none) (w : Wd (C.plus a vs) F H dk) : Wd C F H dk := by
  have ba : (C.plus a vs).B a = some (.lst vs) := upd_same
  refine ⟨w.fh, fun b o e => w.bh b o ?_, w.ff, w.dd, w.da, fun b hb => ⟨(w.df b hb).1, ?_⟩, fun b hb h0 => w.fb b ?_ h0⟩
  · show upd C.B a (.lst vs) b = some o
    rw [upd_ne fun z => by rw [z, b0] at e; cases e]
    exact e
  · have q : upd C.B a (.lst vs) b = none := (w.df b hb).2
    rw [upd_ne (show b ≠ a from fun z => by
      have := (w.df b hb).2
      rw [z, ba] at this
      cases this)] at q
    exact q
  · show upd C.B a (.lst vs) b ≠ none
    rw [upd_ne fun z => hb (by rw [z]; exact b0)]
    exact hb
/-- a value is held while the slots go on -/
theorem Rel1.hold (r : Rel1 C F H dk σ s v x) : ∃ C' : Ct, C'.toFx = C.toFx ∧ C'.E = C.E ∧ Rel C' F H dk σ s ∧ (∀ F' H' dk' σ' s', Rel C' F' H' dk' σ' s' → Rel1 C F' H' dk' σ' s' v x) ∧ ∀ c z, RPost C c z → RPost C' c z := by
  have w := r.w
  obtain ⟨fp, h⟩ := r.head
  cases x with
  | own xs =>
    cases h with
    | @own a _ ow =>
      obtain ⟨vs, ha, hd, f0, b0, r'⟩ := Rel1.plus r
      have r2 := r'.now
      refine ⟨(C.plus a vs).now F dk, rfl, rfl, r2, fun F' H' dk' σ' s' q => ?_, fun c z hz F1 H1 d1 v1 dx w1 => hz F1 H1 d1 v1 dx (wd_unplus b0 (Wd.unnow r'.w w1))⟩
      exact (Rel.unplus f0 b0 (Rel.unnow r'.w q) (DvL.mono q.w.ff _ _ hd)).2
  | d y =>
    cases h with
    | d h =>
      refine ⟨C.now F dk, rfl, rfl, r.tail.now, fun F' H' dk' σ' s' q => ?_, fun c z hz => hz.now w⟩
      exact (Rel.unnow r.tail.w q).with_d (Dv.mono q.w.ff _ _ h)
  | deck =>
    cases h with
    | deck h =>
      refine ⟨C.now F dk, rfl, rfl, r.tail.now, fun F' H' dk' σ' s' q => ?_, fun c z hz => hz.now w⟩
      exact (Rel.unnow r.tail.w q).with_sr0 (.deck (q.w.dd _ h))
  | scr ns =>
    cases h with
    | scr h =>
      refine ⟨C.now F dk, rfl, rfl, r.tail.now, fun F' H' dk' σ' s' q => ?_, fun c z hz => hz.now w⟩
      exact (Rel.unnow r.tail.w q).with_sr0 (.scr (q.w.ff.seq h))
/-- an object that nobody holds -/
theorem Rel.newG (r : Rel C F H dk σ s) {p : Addr} {ob : HO} (h : H p = none) : Rel C F (upd H p ob) dk σ s := by
  obtain ⟨fp, h1, h2⟩ := r.sl
  have hF := r.w.freeF h
  have hV := r.w.freeV h
  have hB := r.w.freeB h
  refine ⟨⟨r.w.fh.trans (same_upd h), r.w.bh.trans (same_upd h), r.w.ff, r.w.dd, r.w.da_upd hV, r.w.df, r.w.fb⟩, r.len, fp, fun i => ?_, h2⟩
  have z := h1 i
  generalize fp i = f at z
  generalize σ.getD i none = si at z
  generalize gt s i = gi at z
  cases z with
  | no _ => exact .no _
  | d h => exact .d h
  | own q =>
    obtain ⟨o1, o2, o3, ws, o4, o5⟩ := q
    exact .own ⟨o1, o2, o3, ws, by rw [upd_ne (ne_of_none o4 h)]; exact o4, o5⟩
  | deck h => exact .deck h
  | scr h => exact .scr h
end
def QWs (C : Ct) (σ : LS) (Q : List V → Hp → Prop) (r : List Vl × S) : Prop := ∀ F H dk (vs : List V), vs.length = r.1.length → Rel C F H dk (vs.map some ++ σ) (r.1.map some ++ r.2) → Q vs H
def tWs (Y : Fx) (E : XK) (f : S → M (List Vl × S)) : TA := fun σ H Q => ∃ C F dk s, C.toFx = Y ∧ C.E = E ∧ Rel C F H dk σ s ∧ (f s).All (QWs C σ Q) (RPost C)
section
variable {Y : Fx} {E : XK} {X : Cx} {e a b c : Expr} {es : List Expr} {x y z : Str} {pos : Pos} {i j l : Nat}
theorem so_nilW : PA X [] (tWs Y E fun s => .ret ([], s)) := pa_imp pa_nil fun σ H Q ⟨C, F, dk, s, hY, hE, r, q⟩ => q F H dk [] rfl r
theorem so_consW {f : S → M (Vl × S)} {g : S → M (List Vl × S)} (ha : PE X e (tV Y E f)) (hb : PA X es (tWs Y E g)) (hs : plainE e = true) :
    PA X (e :: es) (tWs Y E fun s => (f s).bind fun r => (g r.2).bind fun q => .ret (r.1 :: q.1, q.2)) := by
  refine pa_imp (pa_cons ha hb (star_cons hs)) fun σ H Q ⟨C, F, dk, s, hY, hE, r, q⟩ => ?_
  refine ⟨C, F, dk, s, hY, hE, r, ((M.all_bind _).mp q).mono (fun p hp F1 H1 d1 v r1 => ?_) fun _ _ z => z⟩
  obtain ⟨C', e1, e2, r2, k, hR⟩ := r1.hold
  refine ⟨C', F1, d1, p.2, e1.trans hY, e2.trans hE, r2, ((M.all_bind _).mp hp).mono (fun p2 hp2 F3 H3 d3 vs hl r3 => ?_) fun c z hz => hR c z hz⟩
  exact hp2 F3 H3 d3 (v :: vs) (congrArg Nat.succ hl) (k F3 H3 d3 _ _ r3)
/-! ### what the swap's rules ask -/
def isNmL (sc : Scope) (l : Nat) : Expr → Option Str
  | .Name id pos => if (sc.names.lookup id == some .local && pos.line == l) = true then some id else none
  | _ => none
/-- some target is no plain local -/
def cellB (sc : Scope) (ts : List Expr) : Bool := ts.any fun t => match t with
  | .Name x _ => (match sc.names.lookup x with | some .local => false | _ => true)
  | _ => true
theorem fm_lt {α β : Type} (f : α → Option β) : ∀ l : List α, (l.filterMap f).length ≤ l.length ∧ ((∃ t ∈ l, f t = none) → (l.filterMap f).length < l.length)
  | [] => ⟨Nat.le_refl _, fun ⟨t, h, _⟩ => by cases h⟩
  | a :: l => by
    obtain ⟨i1, i2⟩ := fm_lt f l
    rw [List.filterMap_cons]
    cases e : f a with
    | none => exact ⟨Nat.le_succ_of_le i1, fun _ => Nat.lt_succ_of_le i1⟩
    | some b =>
      refine ⟨Nat.succ_le_succ i1, fun ⟨t, h, e2⟩ => Nat.succ_lt_succ (i2 ?_)⟩
      rcases List.mem_cons.mp h with z | z
      · rw [z, e] at e2; cases e2
      · exact ⟨t, z, e2⟩
theorem sw_cell {ts vs : List Expr} {k k2 : Nat} {pt pt2 : Pos} {env : Env} (h : cellB env.scope ts = true) : swappedStores [.Tuple ts k pt] (.Tuple vs k2 pt2) env = pure none := by
  unfold swappedStores
  simp only
  split
  · rfl
  · split
    · rfl
    · rw [if_pos]
      rw [Bool.or_eq_true]
      refine .inl ?_
      rw [bne_iff_ne]
      refine Nat.ne_of_lt ((fm_lt _ ts).2 ?_)
      obtain ⟨t, ht, hb⟩ := List.any_eq_true.mp h
      refine ⟨t, ht, ?_⟩
      cases t with
      | Name x p =>
        have hb' : (match env.scope.names.lookup x with | some .local => false | _ => true) = true := hb
        have hk : (env.kindOf x == some .local) = false := by
          show (env.scope.names.lookup x == some .local) = false
          cases e : env.scope.names.lookup x with
          | none => rfl
          | some kd =>
            rw [e] at hb'
            cases kd <;> first | rfl | cases hb'
        simp only [hk, Bool.false_and, Bool.false_eq_true, if_false]
      | _ => rfl
theorem sw_none {ts vs : List Expr} {k k2 : Nat} {pt pt2 : Pos} {env : Env} (h : (ts.length ≠ 2 ∧ ts.length ≠ 3) ∨ vs.all (foldedForSure 8) = true) : swappedStores [.Tuple ts k pt] (.Tuple vs k2 pt2) env = pure none := by
  unfold swappedStores
  simp only
  rcases h with ⟨h1, h2⟩ | h
  · have e : (!(ts.length == 2 || ts.length == 3)) = true := by simp [h1, h2]
    rw [if_pos (by simp [e])]
  · split
    · rfl
    · split
      · rfl
      · split
        · rfl
        · first
            | rfl
            | (rw [if_pos h]; done)
            | (rw [if_pos h]; rfl)
theorem sw_two {k k2 : Nat} {px py pt pt2 : Pos} {env : Env} (hk : env.scope.kind = .function) (hx : env.scope.names.lookup x = some .local) (hy : env.scope.names.lookup y = some .local) (hl : (py.line == px.line) = true) (hne : x ≠ y) (pa : plainE a = true) (pb : plainE b = true)
    (hf : [a, b].all (foldedForSure 8) = false) (hc : [a, b].all (constantsAlone 8) = false) : swappedStores [.Tuple [.Name x px, .Name y py] k pt] (.Tuple [a, b] k2 pt2) env = pure (some [x, y]) := by
  have kx : env.kindOf x = some .local := hx
  have ky : env.kindOf y = some .local := hy
  have hb : env.blockKind = .function := by unfold Env.blockKind; rw [hk]; rfl
  have hst : ([a, b].any fun | .Starred .. => true | _ => false) = false := by
    cases a <;> cases b <;> first | rfl | (cases pa; done) | (cases pb; done)
  have hd : ([x, y] : List Str).eraseDups = [x, y] := by
    have : (y == x) = false := by simpa using fun e : y = x => hne e.symm
    simp [List.eraseDups_cons, this]
  unfold swappedStores
  simp only [List.length_cons, List.length_nil, hb, List.head?_cons, Option.map_some, Option.getD_some, Expr.pos, List.filterMap_cons, List.filterMap_nil, kx, ky, hl, hf, hc]
  simp
  rw [if_neg, hd]
  · rfl
  · rintro (h | h)
    · cases a <;> first | (cases h; done) | (cases pa; done)
    · cases b <;> first | (cases h; done) | (cases pb; done)
theorem sw_three {k k2 : Nat} {px py pz pt pt2 : Pos} {env : Env} (hk : env.scope.kind = .function) (hx : env.scope.names.lookup x = some .local) (hy : env.scope.names.lookup y = some .local) (hz : env.scope.names.lookup z = some .local) (hl : (py.line == px.line) = true) (hl2 : (pz.line == px.line) = true)
    (hxy : x ≠ y) (hxz : x ≠ z) (hyz : y ≠ z) (pa : plainE a = true) (pb : plainE b = true) (pc : plainE c = true)
    (hf : [a, b, c].all (foldedForSure 8) = false) (hc : [a, b, c].all (constantsAlone 8) = false) : swappedStores [.Tuple [.Name x px, .Name y py, .Name z pz] k pt] (.Tuple [a, b, c] k2 pt2) env = pure (some [x, y, z]) := by
  have kx : env.kindOf x = some .local := hx
  have ky : env.kindOf y = some .local := hy
  have kz : env.kindOf z = some .local := hz
  have hb : env.blockKind = .function := by unfold Env.blockKind; rw [hk]; rfl
  have hd : ([x, y, z] : List Str).eraseDups = [x, y, z] := by
    have e1 : (y == x) = false := by simpa using fun e : y = x => hxy e.symm
    have e2 : (z == x) = false := by simpa using fun e : z = x => hxz e.symm
    have e3 : (z == y) = false := by simpa using fun e : z = y => hyz e.symm
    simp [List.eraseDups_cons, e1, e2, e3]
  unfold swappedStores
  simp only [List.length_cons, List.length_nil, hb, List.head?_cons, Option.map_some, Option.getD_some, Expr.pos, List.filterMap_cons, List.filterMap_nil, kx, ky, kz, hl, hl2, hf, hc]
  simp
  rw [if_neg, hd]
  · rfl
  · rintro (h | h | h)
    · cases a <;> first | (cases h; done) | (cases pa; done)
    · cases b <;> first | (cases h; done) | (cases pb; done)
    · cases c <;> first | (cases h; done) | (cases pc; done)
/-! ### the statements -/
theorem len2 {α : Type} : ∀ {l : List α}, l.length = 2 → ∃ a b, l = [a, b]
  | [a, b], _ => ⟨a, b, rfl⟩
theorem len3 {α : Type} : ∀ {l : List α}, l.length = 3 → ∃ a b c, l = [a, b, c]
  | [a, b, c], _ => ⟨a, b, c, rfl⟩
theorem st_par2 {k k2 : Nat} {px py pt pt2 : Pos} {f : S → M (List Vl × S)} (hlen : ∀ s P R, (f s).All P R → (f s).All (fun r => P r ∧ r.1.length = 2) R) (hcm : X.calm = true) (hN : X.N.Nodup) (hi : X.N[i]? = some x) (hj : X.N[j]? = some y) (hij : i ≠ j)
    (hx : X.env.scope.names.lookup x = some .local) (hy : X.env.scope.names.lookup y = some .local) (ha : PA X [a, b] (tWs Y E f)) (hw : swappedStores [.Tuple [.Name x px, .Name y py] k pt] (.Tuple [a, b] k2 pt2) X.env = pure (some [x, y])) :
    PS X (.Assign [.Tuple [.Name x px, .Name y py] k pt] (.Tuple [a, b] k2 pt2) pos) (tS Y E fun s => (f s).bind fun r => .ret (.nx (setAll [i, j] r.1 r.2))) := by
  refine ps_imp (ps_par hcm hN hi hj hij hx hy ha hw rfl) fun D σ H ⟨C, F, dk, s, hY, hE, r, q⟩ => ?_
  refine ⟨C, F, dk, s, hY, hE, r, (hlen _ _ _ ((M.all_bind _).mp q)).mono (fun p hp F1 H1 d1 vs hl r1 => ?_) fun _ _ z => z⟩
  obtain ⟨ws, s1⟩ := p
  obtain ⟨hp, hl2⟩ := hp
  obtain ⟨v', w', rfl⟩ := len2 hl2
  obtain ⟨v, w, rfl⟩ := len2 (show vs.length = 2 from hl)
  · refine ⟨v, w, rfl, hp F1 H1 d1 _ ?_⟩
    have r2 : Rel C F1 H1 d1 (some w :: σ.set i (some v)) (some w' :: s1.set i (some v')) := Rel1.store (σ := some w :: σ) (s := some w' :: s1) r1 (i + 1)
    exact Rel1.store r2 j
theorem st_par3 {k k2 : Nat} {px py pz pt pt2 : Pos} {f : S → M (List Vl × S)} (hlen : ∀ s P R, (f s).All P R → (f s).All (fun r => P r ∧ r.1.length = 3) R) (hcm : X.calm = true) (hN : X.N.Nodup) (hi : X.N[i]? = some x) (hj : X.N[j]? = some y) (hl : X.N[l]? = some z) (hij : i ≠ j) (hil : i ≠ l) (hjl : j ≠ l)
    (hx : X.env.scope.names.lookup x = some .local) (hy : X.env.scope.names.lookup y = some .local) (hz : X.env.scope.names.lookup z = some .local) (ha : PA X [a, b, c] (tWs Y E f)) (hw : swappedStores [.Tuple [.Name x px, .Name y py, .Name z pz] k pt] (.Tuple [a, b, c] k2 pt2) X.env = pure (some [x, y, z])) :
    PS X (.Assign [.Tuple [.Name x px, .Name y py, .Name z pz] k pt] (.Tuple [a, b, c] k2 pt2) pos) (tS Y E fun s => (f s).bind fun r => .ret (.nx (setAll [i, j, l] r.1 r.2))) := by
  refine ps_imp (ps_par3 hcm hN hi hj hl hij hil hjl hx hy hz ha hw rfl) fun D σ H ⟨C, F, dk, s, hY, hE, r, q⟩ => ?_
  refine ⟨C, F, dk, s, hY, hE, r, (hlen _ _ _ ((M.all_bind _).mp q)).mono (fun p hp F1 H1 d1 vs hl r1 => ?_) fun _ _ z => z⟩
  obtain ⟨ws, s1⟩ := p
  obtain ⟨hp, hl2⟩ := hp
  obtain ⟨u', v', w', rfl⟩ := len3 hl2
  obtain ⟨u, v, w, rfl⟩ := len3 (show vs.length = 3 from hl)
  · refine ⟨u, v, w, rfl, hp F1 H1 d1 _ ?_⟩
    have r2 : Rel C F1 H1 d1 (some v :: some w :: σ.set i (some u)) (some v' :: some w' :: s1.set i (some u')) := Rel1.store (σ := some v :: some w :: σ) (s := some v' :: some w' :: s1) r1 (i + 2)
    have r3 : Rel C F1 H1 d1 (some w :: (σ.set i (some u)).set j (some v)) (some w' :: (s1.set i (some u')).set j (some v')) := Rel1.store (σ := some w :: σ.set i (some u)) (s := some w' :: s1.set i (some u')) r2 (j + 1)
    exact Rel1.store r3 l
/-- the plain way: a tuple, unpacked -/
def gNms : List Nat → TGs
  | [] => gNil
  | i :: is => gCons (gName i) (gNms is)
theorem nms_rd {C : Ct} {F H : Hp} {dk : List (Addr × Addr)} {Q : LS → Hp → Prop} : ∀ (is : List Nat) (vs : List V) (ws : List Vl) (σ : LS) (s : S), is.length = vs.length → vs.length = ws.length → Rel C F H dk (vs.map some ++ σ) (ws.map some ++ s) → (∀ σ', Rel C F H dk σ' (setAll is ws s) → Q σ' H) → gNms is vs σ H Q
  | [], [], [], σ, s, _, _, r, k => ⟨rfl, k σ r⟩
  | i :: is, v :: vs, w :: ws, σ, s, h1, h2, r, k => by
    refine ⟨v, vs, rfl, nms_rd is vs ws (σ.set i (some v)) (s.set i (some w)) (Nat.succ.inj h1) (Nat.succ.inj h2) ?_ k⟩
    have r' : Rel1 C F H dk (vs.map some ++ σ) (ws.map some ++ s) v w := r
    have l1 : (vs.map some).length = (ws.map (some : Vl → Option Vl)).length := by rw [List.length_map, List.length_map]; exact Nat.succ.inj h2
    have := r'.store ((vs.map some).length + i)
    rw [List.set_append_right _ _ (by omega), Nat.add_sub_cancel_left, l1, List.set_append_right _ _ (by omega), Nat.add_sub_cancel_left] at this
    exact this
  | [], _ :: _, _, _, _, h, _, _, _ => by cases h
  | _ :: _, [], _, _, _, h, _, _, _ => by cases h
  | [], [], _ :: _, _, _, _, h, _, _ => by cases h
  | _ :: _, _ :: _, [], _, _, _, h, _, _ => by cases h
/-- the names of a written tuple -/
def nmsOk (N : List Str) (sc : Scope) : List Nat → List Expr → Bool
  | [], [] => true
  | i :: is, .Name x _ :: ts => decide (N[i]? = some x) && (match sc.names.lookup x with | some .local => true | some .cell => true | _ => false) && nmsOk N sc is ts
  | _, _ => false
theorem lc_of {sc : Scope} {x : Str} (h : (match sc.names.lookup x with | some .local => true | some .cell => true | _ => false) = true) : Loc sc x := by
  unfold L2.Loc
  split at h
  · rename_i e; exact .inl e
  · rename_i e; exact .inr e
  · cases h
theorem pgs_nms (hN : X.N.Nodup) (hfn : ∀ x, X.fn x = true) : ∀ (is : List Nat) (ts : List Expr), nmsOk X.N X.env.scope is ts = true → PGs X ts (gNms is) ∧ ts.all plainE = true ∧ ts.length = is.length
  | [], [], _ => ⟨pgs_nil, rfl, rfl⟩
  | i :: is, .Name x p :: ts, h => by
    have h' : (decide (X.N[i]? = some x) && (match X.env.scope.names.lookup x with | some .local => true | some .cell => true | _ => false) && nmsOk X.N X.env.scope is ts) = true := h
    simp only [Bool.and_eq_true, decide_eq_true_eq] at h'
    obtain ⟨i1, i2, i3⟩ := pgs_nms hN hfn is ts h'.2
    exact ⟨pgs_cons (pg_name hN h'.1.1 (lc_of h'.1.2) (.inl (hfn x))) i1 (assignEach_cons rfl), by rw [List.all_cons, i2]; rfl, congrArg Nat.succ i3⟩
  | [], _ :: _, h => by cases h
  | _ :: _, [], h => by cases h
theorem st_parN {ts : List Expr} {is : List Nat} {k k2 : Nat} {pt pt2 : Pos} {f : S → M (List Vl × S)} (hlen : ∀ s P R, (f s).All P R → (f s).All (fun r => P r ∧ r.1.length = is.length) R) (hcm : X.calm = true) (hN : X.N.Nodup) (hfn : ∀ x, X.fn x = true) (hok : nmsOk X.N X.env.scope is ts = true) (h1000 : is.length ≤ 1000)
    (ha : PA X es (tWs Y E f)) (hw : swappedStores [.Tuple ts k pt] (.Tuple es k2 pt2) X.env = pure none) :
    PS X (.Assign [.Tuple ts k pt] (.Tuple es k2 pt2) pos) (tS Y E fun s => (f s).bind fun r => .ret (.nx (setAll is r.1 r.2))) := by
  obtain ⟨g1, g2, g3⟩ := pgs_nms hN hfn is ts hok
  obtain ⟨l1, l2⟩ := assignEach_len (env := X.env) g2
  refine ps_imp (ps_asg (pe_tup ha) (pg_tup (n := is.length) hcm g1 (l1.trans g3) l2) rfl hw (assignEach_cons rfl)) fun D σ H ⟨C, F, dk, s, hY, hE, r, q⟩ => ?_
  refine ⟨C, F, dk, s, hY, hE, r, (hlen _ _ _ ((M.all_bind _).mp q)).mono (fun p hp F1 H1 d1 vs hl r1 => ?_) fun _ _ z => z⟩
  obtain ⟨ws, s1⟩ := p
  obtain ⟨hp, hl2⟩ := hp
  have hvs : vs.length = is.length := hl.trans hl2
  refine ⟨by rw [hvs, line_eq]; omega, fun p hpn => ⟨p, vs, rfl, .inl (.inl upd_same), hvs, ?_⟩⟩
  exact nms_rd is vs ws σ s1 hvs.symm hl (r1.newG hpn) fun σ' r' => hp F1 _ d1 σ' r'
end
end TP
end

section
set_option linter.all false
set_option maxRecDepth 100000
/-! list(zip(a, b)). -/
namespace TP
open PySem L2 PySem.Spec PyProof.Rows
theorem zip_no_len : typeLookup (.type "zip") "__len__" = pure none := by rw [typeLookup_type, builtinLookup_eq_fast]; kernel_rfl
theorem zip_no_hint : typeLookup (.type "zip") "__length_hint__" = pure none := by rw [typeLookup_type, builtinLookup_eq_fast]; kernel_rfl
section
variable {prog : Program} {w : World} {A : Around} {E : Value → Shared → Prop} {s : Shared} {z TI TO i1 i2 T : Addr} {fp1 fp2 : List Addr} {n1 n2 i : Nat} {P1 P2 : Nat → Value → Prop} {St1 St2 : Nat → Heap → Prop} {f : Bool} {oT : Obj}
/-- the next pair while the last one is still out -/
theorem held_item {Q : Value → Shared → Prop} (S : ZipSep2 z TI TO i1 i2 fp1 fp2) (D1 : Draws prog w A i1 fp1 n1 P1 St1) (D2 : Draws prog w A i2 fp2 n2 P2 St2)
    (hz : IsZipHeld s.heap z TI TO T f) (hT : s.heap.get? T = some oT) (hTI : IsTupOf2 s.heap TI (.ref i1) (.ref i2)) (st1 : St1 i s.heap) (st2 : St2 i s.heap) (hlt1 : i < n1) (hlt2 : i < n2)
    (hQ : ∀ x1 x2 h' tk, P1 i x1 → P2 i x2 → IsZipHeld h' z TI TO T true → St1 (i + 1) h' → St2 (i + 1) h' → IsTupOf2 h' s.heap.objs.size x1 x2 → h'.objs.size = s.heap.objs.size + 1 →
      (∀ c o, c ≠ z → c ≠ i1 → c ≠ i2 → s.heap.get? c = some o → h'.get? c = some o) → Q (.ref s.heap.objs.size) { s with heap := h', toks := tk }) :
    wpAny (model prog w) A (Builtin.«zip.__next__» ⟨[.ref z], []⟩) (fun fin s' => ∃ v, fin = .done (.ret v) ∧ Q v s') E s := by
  obtain ⟨hp, g, d, tk0, os⟩ := s
  show wpAny _ _ (field (.ref z) 2 >>= _) _ _ _
  refine wpAny_bind (wpAny_field hz rfl (x := .bool false) rfl ?_)
  show wpAny _ _ (field (.ref z) 3 >>= _) _ _ _
  refine wpAny_bind (wpAny_field hz rfl (x := .ref TI) rfl ?_)
  refine wpAny_bind (wpAny_seqItems hTI rfl ?_)
  show wpAny _ _ (Builtin.SmallTypes.ownedTupleIsFree (.ref z) >>= _) _ _ _
  refine wpAny_bind (wpAny_tupleHeld_zip hz hT fun h₁ hz₁ hs₁ => ?_)
  replace hs₁ : Heap.SameBut z hp h₁ := hs₁
  simp only [Bool.false_eq_true, if_false]
  refine wpAny_bind ?_
  rw [← Array.forIn_toList]
  simp only [List.forIn_cons, List.forIn_nil]
  refine wpAny_bind (wpAny_bind (wpAny_holding ?_))
  show wpAny _ _ (Builtin.SmallTypes.nextOf (.ref i1) >>= _) _ _ _
  refine wpAny_bind (D1.item i _ _ _ hlt1 (D1.over st1 hs₁ S.zf1) fun x1 h₂ tk1 hx1 s1₂ hs₂ => wpAny_pure ?_)
  replace hs₂ : Heap.SameBut i1 h₁ h₂ := hs₂
  refine wpAny_pure ?_
  refine wpAny_bind (wpAny_bind (wpAny_holding ?_))
  show wpAny _ _ (Builtin.SmallTypes.nextOf (.ref i2) >>= _) _ _ _
  refine wpAny_bind (D2.item i _ _ _ hlt2 (D2.over (D2.over st2 hs₁ S.zf2) hs₂ S.sep1_2) fun x2 h₃ tk2 hx2 s2₃ hs₃ => wpAny_pure ?_)
  replace hs₃ : Heap.SameBut i2 h₂ h₃ := hs₃
  refine wpAny_pure (wpAny_pure ?_)
  show wpAny _ _ (newTuple [x1, x2] >>= _) _ _ _
  refine wpAny_bind (wpAny_newTuple ?_)
  have hsz : h₃.objs.size = hp.objs.size := by rw [hs₃.1, hs₂.1, hs₁.1]
  have hz₃ : IsZipHeld h₃ z TI TO T true := hs₃.extBut _ _ S.zi2 (hs₂.extBut _ _ S.zi1 hz₁)
  have hk : ∀ c o, c ≠ z → c ≠ i1 → c ≠ i2 → hp.get? c = some o → h₃.get? c = some o := fun c o c1 c2 c3 e => hs₃.extBut _ _ c3 (hs₂.extBut _ _ c2 (hs₁.extBut _ _ c1 e))
  have j1 : St1 (i + 1) h₃ := D1.over s1₂ hs₃ S.sep2_1
  refine wpAny_pure ⟨_, rfl, ?_⟩
  show Q (.ref h₃.objs.size) _
  have hp2 : IsTupOf2 (h₃.push { cls := .type "tuple", data := .seq #[x1, x2] }) h₃.objs.size x1 x2 := Heap.get?_push_size _ rfl
  have hz4 : (h₃.push { cls := .type "tuple", data := .seq #[x1, x2] }).objs.size = h₃.objs.size + 1 := Heap.size_push ..
  rw [hsz] at hp2 hz4 ⊢
  exact hQ x1 x2 _ tk2 hx1 hx2 (Heap.get?_push_of_some _ hz₃) (D1.frame _ _ _ j1 fun b _ o e => Heap.get?_push_of_some _ e) (D2.frame _ _ _ s2₃ fun b _ o e => Heap.get?_push_of_some _ e) hp2 hz4 fun c o c1 c2 c3 e => Heap.get?_push_of_some _ (hk c o c1 c2 c3 e)
theorem held_end {Q : Fin → Shared → Prop} (S : ZipSep2 z TI TO i1 i2 fp1 fp2) (D1 : Draws prog w A i1 fp1 n1 P1 St1) (D2 : Draws prog w A i2 fp2 n2 P2 St2)
    (hz : IsZipHeld s.heap z TI TO T f) (hT : s.heap.get? T = some oT) (hTI : IsTupOf2 s.heap TI (.ref i1) (.ref i2)) (st1 : St1 i s.heap) (st2 : St2 i s.heap) (hle1 : i ≤ n1) (hle2 : i ≤ n2) (hend : i = n1 ∨ i = n2)
    (hE : ∀ h' tk e, (∀ c o, c ≠ z → c ≠ i1 → c ≠ i2 → s.heap.get? c = some o → h'.get? c = some o) → (∃ o, h'.get? e = some o ∧ o.cls = .type "StopIteration") → E (.ref e) { s with heap := h', toks := tk }) :
    wpAny (model prog w) A (Builtin.«zip.__next__» ⟨[.ref z], []⟩) Q E s := by
  obtain ⟨hp, g, d, tk0, os⟩ := s
  show wpAny _ _ (field (.ref z) 2 >>= _) _ _ _
  refine wpAny_bind (wpAny_field hz rfl (x := .bool false) rfl ?_)
  show wpAny _ _ (field (.ref z) 3 >>= _) _ _ _
  refine wpAny_bind (wpAny_field hz rfl (x := .ref TI) rfl ?_)
  refine wpAny_bind (wpAny_seqItems hTI rfl ?_)
  show wpAny _ _ (Builtin.SmallTypes.ownedTupleIsFree (.ref z) >>= _) _ _ _
  refine wpAny_bind (wpAny_tupleHeld_zip hz hT fun h₁ hz₁ hs₁ => ?_)
  replace hs₁ : Heap.SameBut z hp h₁ := hs₁
  simp only [Bool.false_eq_true, if_false]
  refine wpAny_bind ?_
  rw [← Array.forIn_toList]
  simp only [List.forIn_cons, List.forIn_nil]
  refine wpAny_bind (wpAny_bind (wpAny_holding ?_))
  show wpAny _ _ (Builtin.SmallTypes.nextOf (.ref i1) >>= _) _ _ _
  by_cases e1 : i = n1
  · subst e1
    refine wpAny_bind (D1.done _ _ _ (D1.over st1 hs₁ S.zf1) fun h₂ e hs₂ he => ?_)
    exact hE h₂ _ e (fun c o c1 c2 _ x => hs₂ _ _ c2 (hs₁.extBut _ _ c1 x)) he
  · have e2 : i = n2 := by omega
    subst e2
    refine wpAny_bind (D1.item i _ _ _ (by omega) (D1.over st1 hs₁ S.zf1) fun x1 h₂ tk1 hx1 s1₂ hs₂ => wpAny_pure ?_)
    replace hs₂ : Heap.SameBut i1 h₁ h₂ := hs₂
    refine wpAny_pure ?_
    refine wpAny_bind (wpAny_bind (wpAny_holding ?_))
    show wpAny _ _ (Builtin.SmallTypes.nextOf (.ref i2) >>= _) _ _ _
    refine wpAny_bind (D2.done _ _ _ (D2.over (D2.over st2 hs₁ S.zf2) hs₂ S.sep1_2) fun h₃ e hs₃ he => ?_)
    exact hE h₃ _ e (fun c o c1 c2 c3 x => hs₃ _ _ c3 (hs₂.extBut _ _ c2 (hs₁.extBut _ _ c1 x))) he
theorem pyNext_held_item {Q : Option Value → Shared → Prop} (S : ZipSep2 z TI TO i1 i2 fp1 fp2) (D1 : Draws prog w A.in1 i1 fp1 n1 P1 St1) (D2 : Draws prog w A.in1 i2 fp2 n2 P2 St2)
    (hz : IsZipHeld s.heap z TI TO T f) (hT : s.heap.get? T = some oT) (hTI : IsTupOf2 s.heap TI (.ref i1) (.ref i2)) (st1 : St1 i s.heap) (st2 : St2 i s.heap) (hlt1 : i < n1) (hlt2 : i < n2)
    (hQ : ∀ x1 x2 h' tk, P1 i x1 → P2 i x2 → IsZipHeld h' z TI TO T true → St1 (i + 1) h' → St2 (i + 1) h' → IsTupOf2 h' s.heap.objs.size x1 x2 → h'.objs.size = s.heap.objs.size + 1 →
      (∀ c o, c ≠ z → c ≠ i1 → c ≠ i2 → s.heap.get? c = some o → h'.get? c = some o) → Q (some (.ref s.heap.objs.size)) { s with heap := h', toks := tk }) :
    wpAny (model prog w) A (pyNext (.ref z)) Q E s := by
  have hTy : s.TypeIs (.ref z) "zip" := ⟨_, hz, rfl⟩
  unfold pyNext
  exact wpAny_bind (wpAny_attempt (wpAny_callSpecial?_slot (name := Str.ofString "__next__") hTy F.slot_zip_next
    (wpAny_call_entry F.slot_zip_next hTy F.entry_zip_next
      (held_item S D1 D2 hz hT hTI st1 st2 hlt1 hlt2 fun x1 x2 h' tk a1 a2 a3 a4 a5 a6 a7 a8 => wpAny_pure (hQ x1 x2 h' tk a1 a2 a3 a4 a5 a6 a7 a8)) (F.args_zip_next_1 _))))
theorem pyNext_held_end {Q : Option Value → Shared → Prop} (S : ZipSep2 z TI TO i1 i2 fp1 fp2) (D1 : Draws prog w A.in1 i1 fp1 n1 P1 St1) (D2 : Draws prog w A.in1 i2 fp2 n2 P2 St2)
    (hz : IsZipHeld s.heap z TI TO T f) (hT : s.heap.get? T = some oT) (hTI : IsTupOf2 s.heap TI (.ref i1) (.ref i2)) (st1 : St1 i s.heap) (st2 : St2 i s.heap) (hle1 : i ≤ n1) (hle2 : i ≤ n2) (hend : i = n1 ∨ i = n2)
    (hQ : ∀ h' tk, (∀ c o, c ≠ z → c ≠ i1 → c ≠ i2 → s.heap.get? c = some o → h'.get? c = some o) → Q none { s with heap := h', toks := tk }) : wpAny (model prog w) A (pyNext (.ref z)) Q E s := by
  have hTy : s.TypeIs (.ref z) "zip" := ⟨_, hz, rfl⟩
  unfold pyNext
  refine wpAny_bind (wpAny_attempt (wpAny_callSpecial?_slot (name := Str.ofString "__next__") hTy F.slot_zip_next
    (wpAny_call_entry F.slot_zip_next hTy F.entry_zip_next (held_end S D1 D2 hz hT hTI st1 st2 hle1 hle2 hend fun h' tk e hk he => ?_) (F.args_zip_next_1 _))))
  obtain ⟨o, ho, hc⟩ := he
  refine wpAny_bind (wpAny_isInstance (T := "StopIteration") (b := true) ⟨o, ho, hc⟩ isSubtype_stop ?_)
  exact wpAny_pure (hQ _ _ hk)
end
/-! ### the loop -/
/-- the zip at its turn i: free, or with its last tuple out -/
structure ZSt (h : Heap) (z TI TO i1 i2 a1 a2 S : Addr) (b1 b2 : Bool) (i : Nat) : Prop where
  ti : IsTupOf2 h TI (.ref i1) (.ref i2)
  it1 : ItB b1 h i1 a1 i
  it2 : ItB b2 h i2 a2 i
  to : ∃ x y, IsTupOf2 h TO x y
  zz : IsZip h z TI TO .none ∨ ∃ T f oT, IsZipHeld h z TI TO T f ∧ h.get? T = some oT ∧ T ∉ [z, TI, TO, i1, i2, S]
/-- list(zip(a, b)): P tells of the growing list S -/
structure LzP (K : Frag) (b1 b2 : Bool) (a1 a2 S : Addr) (xs ys : List V) (P : List V → Hp → Prop) : Prop where
  at_ : ∀ acc H, P acc H → SqB K H b1 a1 xs ∧ SqB K H b2 a2 ys ∧ H S = some (.lst acc)
  step : ∀ acc x y H T, P acc H → xs[acc.length]? = some x → ys[acc.length]? = some y → H T = none → P (acc ++ [.ref T]) (upd (upd H T (.tup [x, y])) S (.lst (acc ++ [.ref T])))
section
variable {X : Cx} {pins : List (Addr × Obj)} {σ : LS} {z TI TO i1 i2 a1 a2 S : Addr} {b1 b2 : Bool} {xs ys : List V} {P : List V → Hp → Prop} {R : Result → Shared → Prop}
theorem zip_loop (hc : X.calm = true) (D : ZipSep2 z TI TO i1 i2 [i1, a1] [i2, a2]) (m1 : a1 ≠ i1) (m2 : a2 ≠ i2) (hS : S ∉ [z, TI, TO, i1, i2]) (L : LzP X.K b1 b2 a1 a2 S xs ys P) (hz63 : min xs.length ys.length < sizeLine) (res : Value)
    (hR : ∀ acc H s, acc.length = min xs.length ys.length → P acc H → Inv X pins σ H s → R (.ok (.ret res)) s) (A : Around) (hA : A.handled = none) :
    ∀ (k : Nat) (acc : List V) (H : Hp) (s : Shared), min xs.length ys.length - acc.length = k → acc.length ≤ min xs.length ys.length → P acc H → Inv X pins σ H s → ZSt s.heap z TI TO i1 i2 a1 a2 S b1 b2 acc.length → (∀ b ∈ [z, TI, TO, i1, i2], FpOk X pins H b) →
      codeAny (model X.prog X.w) A (.builtin "list.extend.loop" ⟨[.ref S, .ref z, res], []⟩) R s := by
  have sub4 : ∀ c : Addr, c ∉ [z, TI, TO, i1, i2] → c ≠ z ∧ c ≠ TI ∧ c ≠ TO ∧ c ≠ i1 ∧ c ≠ i2 := fun c h => by simpa [not_or] using h
  obtain ⟨Sz, STI, STO, S1, S2⟩ := sub4 S hS
  have hhd : A.in1.in1.handled = none := hA
  intro k
  induction k with
  | zero =>
    intro acc H s hk hle hP I st hf
    obtain ⟨q1, q2, q3⟩ := L.at_ acc H hP
    obtain ⟨its, rv, p, _⟩ := seqB I q1
    obtain ⟨its2, rv2, p2, _⟩ := seqB I q2
    have l1 := rv.length
    have l2 := rv2.length
    have fin : ∀ (h' : Heap) (tk : Nat), (∀ c o, c ≠ z → c ≠ TO → c ≠ i1 → c ≠ i2 → s.heap.get? c = some o → h'.get? c = some o) → R (.ok (.ret res)) { s with heap := h', toks := tk } := fun h' tk hk' =>
      hR acc H _ (by omega) hP (I.turnedL (t' := tk) (ch := [z, TI, TO, i1, i2]) (fun c o hb q => hk' c o (fun q' => hb (by simp [q'])) (fun q' => hb (by simp [q'])) (fun q' => hb (by simp [q'])) (fun q' => hb (by simp [q'])) q) hf)
    refine codeAny_builtin F.entry_extend_loop ?_
    rw [Around.under_plainId F.plain_extend_loop _]
    show wpAny _ A.in1 (pyNext (.ref z) >>= _) _ _ s
    refine wpAny_bind ?_
    obtain ⟨x0, y0, hTO⟩ := st.to
    rcases st.zz with hz | ⟨T, f, oT, hz, hT, _⟩
    · exact wpAny_pyNext_zipD2_end D (drB b1 hhd i1 a1 m1 its.toArray) (drB b2 hhd i2 a2 m2 its2.toArray) hz st.ti hTO ⟨st.it1, p⟩ ⟨st.it2, p2⟩ (by rw [List.size_toArray]; omega) (by rw [List.size_toArray]; omega) (by rw [List.size_toArray, List.size_toArray]; omega)
        fun h' tk hk' => wpAny_pure (fin h' tk hk')
    · exact pyNext_held_end D (drB b1 hhd i1 a1 m1 its.toArray) (drB b2 hhd i2 a2 m2 its2.toArray) hz hT st.ti ⟨st.it1, p⟩ ⟨st.it2, p2⟩ (by rw [List.size_toArray]; omega) (by rw [List.size_toArray]; omega) (by rw [List.size_toArray, List.size_toArray]; omega)
        fun h' tk hk' => wpAny_pure (fin h' tk fun c o c1 _ c3 c4 e => hk' c o c1 c3 c4 e)
  | succ k ih =>
    intro acc H s hk hle hP I st hf
    obtain ⟨q1, q2, q3⟩ := L.at_ acc H hP
    obtain ⟨its, rv, p, _⟩ := seqB I q1
    obtain ⟨its2, rv2, p2, _⟩ := seqB I q2
    have l1 := rv.length
    have l2 := rv2.length
    have g1 : acc.length < xs.length := by omega
    have g2 : acc.length < ys.length := by omega
    obtain ⟨u, hu, ru⟩ := rv.get (List.getElem?_eq_getElem g1)
    obtain ⟨u2, hu2, ru2⟩ := rv2.get (List.getElem?_eq_getElem g2)
    have lt : ∀ c ∈ [z, TI, TO, i1, i2], c < s.heap.objs.size := fun c hc => by
      have e' : c = z ∨ c = TI ∨ c = TO ∨ c = i1 ∨ c = i2 := by simpa using hc
      have hzl : z < s.heap.objs.size := by
        rcases st.zz with hz | ⟨_, _, _, hz, _⟩
        · exact Heap.lt_size hz
        · exact Heap.lt_size hz
      rcases e' with q | q | q | q | q
      · rw [q]; exact hzl
      · rw [q]; exact Heap.lt_size st.ti
      · rw [q]; obtain ⟨_, _, e0⟩ := st.to; exact Heap.lt_size e0
      · rw [q]; obtain ⟨_, e1, _⟩ := st.it1.obj; exact Heap.lt_size e1
      · rw [q]; obtain ⟨_, e2, _⟩ := st.it2.obj; exact Heap.lt_size e2
    have hSl : S < s.heap.objs.size := by
      obtain ⟨_, its3, n3, _, e3⟩ := I.hok S _ q3
      exact Heap.lt_size e3
    -- behind 'next': the new pair stands, it goes into the list
    have go : ∀ (x1 x2 : Value) (h' : Heap) (tk : Nat), its.toArray[acc.length]? = some x1 → its2.toArray[acc.length]? = some x2 → IsTupOf2 h' s.heap.objs.size x1 x2 → h'.objs.size = s.heap.objs.size + 1 →
        (∀ c o, c ≠ z → c ≠ TO → c ≠ i1 → c ≠ i2 → s.heap.get? c = some o → h'.get? c = some o) → IsTupOf2 h' TI (.ref i1) (.ref i2) → ItB b1 h' i1 a1 (acc.length + 1) → ItB b2 h' i2 a2 (acc.length + 1) → (∃ x y, IsTupOf2 h' TO x y) →
        (∃ T f oT, IsZipHeld h' z TI TO T f ∧ h'.get? T = some oT ∧ T ∉ [z, TI, TO, i1, i2, S]) →
        wpAny (model X.prog X.w) A.in1 (updateSeq S (·.push (.ref s.heap.objs.size)) >>= fun _ => again (.builtin "list.extend.loop" ⟨[.ref S, .ref z, res], []⟩)) (fun fin s' => match fin with | .done f => R (.ok f) s' | .again c' => c'.quiet = true ∧ codeAny (model X.prog X.w) A c' R s') (fun e s' => R (.error e) s') { s with heap := h', toks := tk } := by
      intro x1 x2 h' tk e1 e2 hT hsz hk' hTI' h1' h2' hTO' hzz'
      have ex1 : x1 = u := by
        have q : its[acc.length]? = some x1 := by simpa using e1
        rw [hu] at q
        exact (Option.some.inj q).symm
      have ex2 : x2 = u2 := by
        have q : its2[acc.length]? = some x2 := by simpa using e2
        rw [hu2] at q
        exact (Option.some.inj q).symm
      subst ex1 ex2
      obtain ⟨z3, its3, n3, r3, e3⟩ := I.hok S _ q3
      have eS : h'.get? S = some { cls := .type "list", data := .seq its3.toArray n3 } := hk' S _ Sz STO S1 S2 e3
      have l3 := r3.length
      have nST : S ≠ s.heap.objs.size := Nat.ne_of_lt hSl
      have new : ObjOk X.prog X.w (upd H s.heap.objs.size (.tup [xs[acc.length], ys[acc.length]])) h' s.heap.objs.size (.tup [xs[acc.length], ys[acc.length]]) :=
        ⟨by show 2 ≤ sizeLine; decide, [x1, x2], .cons ru (.cons ru2 .nil), ⟨_, hT, rfl, _, rfl⟩⟩
      have I1 : Inv X pins σ (upd H s.heap.objs.size (.tup [xs[acc.length], ys[acc.length]])) { s with heap := h', toks := tk } :=
        I.turnedNew (ch := [z, TI, TO, i1, i2]) (fun c o hb q => hk' c o (fun q' => hb (by simp [q'])) (fun q' => hb (by simp [q'])) (fun q' => hb (by simp [q'])) (fun q' => hb (by simp [q'])) q) hf (Nat.le_refl _) new
      have hS1 : upd H s.heap.objs.size (.tup [xs[acc.length], ys[acc.length]]) S = some (.lst acc) := by rw [upd_ne nST]; exact q3
      have I2 : Inv X pins σ (upd (upd H s.heap.objs.size (.tup [xs[acc.length], ys[acc.length]])) S (.lst (acc ++ [.ref s.heap.objs.size]))) { s with heap := h'.update S (Obj.mapSeq (·.push (.ref s.heap.objs.size))), toks := tk } :=
        I1.lset (its' := its3 ++ [.ref s.heap.objs.size]) (t' := tk) hS1 eS (by simp) (r3.append (.cons (show L2.RelV (V.ref s.heap.objs.size) (Value.ref s.heap.objs.size) from rfl) .nil)) (by rw [List.length_append, List.length_singleton]; omega)
      have oth : ∀ c o, c ≠ S → h'.get? c = some o → (h'.update S (Obj.mapSeq (·.push (.ref s.heap.objs.size)))).get? c = some o := fun c o hc e => (Heap.get?_update_other _ _ (Ne.symm hc)).trans e
      refine wpAny_bind (wpAny_updateSeq eS rfl ?_ (by rw [List.size_toArray]; omega) (by show (its3.toArray.push (Value.ref s.heap.objs.size)).size ≤ sizeLine + 1; rw [Array.size_push, List.size_toArray]; omega))
      refine wpAny_pure ⟨plainId_quiet F.plain_extend_loop _, ?_⟩
      have lenE : (acc ++ [V.ref s.heap.objs.size]).length = acc.length + 1 := by rw [List.length_append, List.length_singleton]
      refine ih (acc ++ [.ref s.heap.objs.size]) _ _ (by omega) (by omega) (L.step acc _ _ H _ hP (List.getElem?_eq_getElem g1) (List.getElem?_eq_getElem g2) (I.hok.fresh (Nat.le_refl _))) I2 ?_ fun b hb => ?_
      · rw [lenE]
        obtain ⟨xo, yo, hTO'⟩ := hTO'
        obtain ⟨T, f, oT, z4, z5, z6⟩ := hzz'
        have z7 : T ≠ S := fun e => z6 (by rw [e]; simp)
        exact ⟨oth _ _ STI.symm hTI', h1'.at fun o e => oth _ _ S1.symm e, h2'.at fun o e => oth _ _ S2.symm e, ⟨xo, yo, oth _ _ STO.symm hTO'⟩, .inr ⟨T, f, oT, oth _ _ Sz.symm z4, oth _ _ z7 z5, z6⟩⟩
      · obtain ⟨f0, f1⟩ := hf b hb
        have nb : b ≠ S := fun e => hS (e ▸ hb)
        have nbT : b ≠ s.heap.objs.size := Nat.ne_of_lt (lt b hb)
        exact ⟨by rw [upd_ne nb, upd_ne nbT]; exact f0, f1⟩
    refine codeAny_builtin F.entry_extend_loop ?_
    rw [Around.under_plainId F.plain_extend_loop _]
    show wpAny _ A.in1 (pyNext (.ref z) >>= _) _ _ s
    refine wpAny_bind ?_
    obtain ⟨x0, y0, hTO⟩ := st.to
    rcases st.zz with hz | ⟨T, f, oT, hz, hT, hTn⟩
    · refine wpAny_pyNext_zipD2_item D (drB b1 hhd i1 a1 m1 its.toArray) (drB b2 hhd i2 a2 m2 its2.toArray) hz st.ti hTO ⟨st.it1, p⟩ ⟨st.it2, p2⟩ (by rw [List.size_toArray]; omega) (by rw [List.size_toArray]; omega) fun x1 x2 h' tk e1 e2 z' TO' h1' h2' hT hsz hk' => ?_
      refine go x1 x2 h' tk e1 e2 hT hsz hk' (hk' _ _ D.TIz D.TITO D.TIi1 D.TIi2 st.ti) h1'.1 h2'.1 ⟨x1, x2, TO'⟩ ⟨s.heap.objs.size, false, _, z', hT, fun hm => ?_⟩
      have hm' : s.heap.objs.size ∈ [z, TI, TO, i1, i2] ∨ s.heap.objs.size = S := by
        rcases List.mem_append.mp (show s.heap.objs.size ∈ [z, TI, TO, i1, i2] ++ [S] from hm) with q | q
        · exact .inl q
        · exact .inr (List.mem_singleton.mp q)
      rcases hm' with q | q
      · exact Nat.lt_irrefl _ (lt _ q)
      · rw [← q] at hSl; exact Nat.lt_irrefl _ hSl
    · have nT : T ≠ z ∧ T ≠ TI ∧ T ≠ TO ∧ T ≠ i1 ∧ T ≠ i2 ∧ T ≠ S := by simpa [not_or] using hTn
      refine pyNext_held_item D (drB b1 hhd i1 a1 m1 its.toArray) (drB b2 hhd i2 a2 m2 its2.toArray) hz hT st.ti ⟨st.it1, p⟩ ⟨st.it2, p2⟩ (by rw [List.size_toArray]; omega) (by rw [List.size_toArray]; omega) fun x1 x2 h' tk e1 e2 z' h1' h2' hT2 hsz hk' => ?_
      exact go x1 x2 h' tk e1 e2 hT2 hsz (fun c o c1 _ c3 c4 e => hk' c o c1 c3 c4 e) (hk' _ _ D.TIz D.TIi1 D.TIi2 st.ti) h1'.1 h2'.1 ⟨x0, y0, hk' _ _ D.TOz D.Ti1 D.Ti2 hTO⟩ ⟨T, true, oT, z', hk' T oT nT.1 nT.2.2.2.1 nT.2.2.2.2.1 hT, hTn⟩
/-- list(z), z a zip just made -/
theorem lz_call (hc : X.calm = true) {s : Shared} {H : Hp} {Q : VK} (I : Inv X pins σ H s) (D : ZipSep2 z TI TO i1 i2 [i1, a1] [i2, a2]) (m1 : a1 ≠ i1) (m2 : a2 ≠ i2) (hz : IsZip s.heap z TI TO .none) (hTI : IsTupOf2 s.heap TI (.ref i1) (.ref i2)) (hTO : ∃ x y, IsTupOf2 s.heap TO x y)
    (h1 : ItB b1 s.heap i1 a1 0) (h2 : ItB b2 s.heap i2 a2 0) (hf : ∀ b ∈ [z, TI, TO, i1, i2], FpOk X pins H b) (hsz : min xs.length ys.length < sizeLine)
    (h : ∀ S, H S = none → ∃ P, LzP X.K b1 b2 a1 a2 S xs ys P ∧ P [] (upd H S (.lst [])) ∧ ∀ acc H2, acc.length = min xs.length ys.length → P acc H2 → Q (.ref S) H2) :
    wpAny (model X.prog X.w) X.A (PySem.call (.type "list") [.ref z]) (EP X pins σ Q) X.xe s := by
  have lt : ∀ c ∈ [z, TI, TO, i1, i2], c < s.heap.objs.size := fun c hc => by
    have e' : c = z ∨ c = TI ∨ c = TO ∨ c = i1 ∨ c = i2 := by simpa using hc
    rcases e' with q | q | q | q | q
    · rw [q]; exact Heap.lt_size hz
    · rw [q]; exact Heap.lt_size hTI
    · rw [q]; obtain ⟨_, _, e0⟩ := hTO; exact Heap.lt_size e0
    · rw [q]; obtain ⟨_, e1, _⟩ := h1.obj; exact Heap.lt_size e1
    · rw [q]; obtain ⟨_, e2, _⟩ := h2.obj; exact Heap.lt_size e2
  have hS : s.heap.objs.size ∉ [z, TI, TO, i1, i2] := fun hm => Nat.lt_irrefl _ (lt _ hm)
  obtain ⟨P, L, P0, fin⟩ := h s.heap.objs.size (I.hok.fresh (Nat.le_refl _))
  refine callType_codes (Q₁ := fun obj s₁ => obj = .ref s.heap.objs.size ∧ s₁ = { s with heap := s.heap.push { cls := .type "list", data := .seq #[] } }) PySem.F.called_list (PySem.F.typeCall_list_1 _) PySem.F.entry_list_init
    (code_list_new _ ⟨rfl, rfl⟩) fun obj s₁ h₁ => ?_
  obtain ⟨rfl, rfl⟩ := h₁
  have eS : (s.heap.push { cls := .type "list", data := .seq #[] }).get? s.heap.objs.size = some { cls := .type "list", data := .seq #[] } := Heap.get?_push_size _ rfl
  refine ⟨⟨_, eS, rfl⟩, PySem.F.args_list_init_2 _ _, ?_⟩
  show wpAny _ _ (do let old ← Builtin.List.listItems (.ref s.heap.objs.size); Builtin.List.listUpdate (.ref s.heap.objs.size) (fun _ => #[]); letGo old.toList.reverse; Builtin.List.listExtendWith (.ref s.heap.objs.size) (.ref z) .none) _ _ _
  refine wpAny_bind ?_
  unfold Builtin.List.listItems
  refine wpAny_bind (wpAny_seqItems eS rfl (wpAny_pure ?_))
  show wpAny _ _ (updateSeq s.heap.objs.size (fun _ => #[]) >>= fun _ => letGo (#[] : Array Value).toList.reverse >>= fun _ => Builtin.List.listExtendWith (.ref s.heap.objs.size) (.ref z) .none) _ _ _
  refine wpAny_bind (wpAny_updateSeq eS rfl ?_)
  have eS2 := Heap.get?_update_self (Obj.mapSeq (fun _ => (#[] : Array Value))) eS rfl
  have kp1 : ∀ b o, s.heap.get? b = some o → ((s.heap.push { cls := .type "list", data := .seq #[] }).update s.heap.objs.size (Obj.mapSeq (fun _ => (#[] : Array Value)))).get? b = some o :=
    fun b o e => (Heap.get?_update_other _ _ (Nat.ne_of_gt (Heap.lt_size e))).trans (Heap.get?_push_of_some _ e)
  generalize hh1 : (s.heap.push { cls := .type "list", data := .seq #[] }).update s.heap.objs.size (Obj.mapSeq (fun _ => (#[] : Array Value))) = g1 at eS2 kp1 ⊢
  obtain ⟨n1, eS2⟩ : ∃ n, g1.get? s.heap.objs.size = some { cls := .type "list", data := .seq #[] n } := ⟨_, by simpa [Obj.mapSeq] using eS2⟩
  refine wpAny_bind (wpAny_letGo ?_)
  have hz1 : IsZip g1 z TI TO .none := kp1 _ _ hz
  have hTz : Shared.TypeIs { s with heap := g1 } (.ref z) "zip" := ⟨_, hz1, rfl⟩
  have nSz : s.heap.objs.size ≠ z := fun e => hS (by rw [e]; simp)
  unfold Builtin.List.listExtendWith
  refine wpAny_bind (wpAny_typeOf (T := "zip") hTz ?_)
  have k1 : Builtin.List.listSameRef (.ref s.heap.objs.size) (.ref z) = false := by simp [Builtin.List.listSameRef, nSz]
  have k2 : (Value.type "zip" == Value.type "list") = false := by decide
  have k3 : (Value.type "zip" == Value.type "tuple") = false := by decide
  simp only [k1, k2, k3, Bool.or_false, Bool.false_eq_true, if_false]
  refine wpAny_bind (wpAny_pyIter_zip hz1 ?_)
  refine wpAny_bind (wpAny_holding ?_)
  unfold Builtin.List.listLengthHint
  refine wpAny_bind (wpAny_specialOf hTz zip_no_len ?_)
  show wpAny _ _ (specialOf (Value.ref z) (Str.ofString "__length_hint__") >>= _) _ _ _
  refine wpAny_bind (wpAny_specialOf hTz zip_no_hint ?_)
  refine wpAny_pure ?_
  show wpAny _ _ (rule "list.extend.makes-room" >>= fun _ => Builtin.List.listTouch (.ref s.heap.objs.size) >>= fun _ => again (.builtin "list.extend.loop" ⟨[.ref s.heap.objs.size, .ref z, .none], []⟩)) _ _ _
  refine wpAny_bind (wpAny_rule ?_)
  refine wpAny_bind ?_
  show wpAny _ _ (updateSeq s.heap.objs.size (·.push .none) >>= fun _ => updateSeq s.heap.objs.size (·.pop)) _ _ _
  refine wpAny_bind (wpAny_updateSeq eS2 rfl ?_)
  have eS3 := Heap.get?_update_self (Obj.mapSeq (·.push Value.none)) eS2 rfl
  refine wpAny_updateSeq (hz := by seq_fits) eS3 rfl ?_
  have eS4 := Heap.get?_update_self (Obj.mapSeq (·.pop)) eS3 rfl
  have kp2 : ∀ b o, s.heap.get? b = some o → ((g1.update s.heap.objs.size (Obj.mapSeq (·.push Value.none))).update s.heap.objs.size (Obj.mapSeq (·.pop))).get? b = some o := fun b o e =>
    have nb : s.heap.objs.size ≠ b := Nat.ne_of_gt (Heap.lt_size e)
    (Heap.get?_update_other _ _ nb).trans ((Heap.get?_update_other _ _ nb).trans (kp1 b o e))
  generalize hh2 : (g1.update s.heap.objs.size (Obj.mapSeq (·.push Value.none))).update s.heap.objs.size (Obj.mapSeq (·.pop)) = g2 at eS4 kp2 ⊢
  obtain ⟨n2, eS4⟩ : ∃ n, g2.get? s.heap.objs.size = some { cls := .type "list", data := .seq #[] n } := ⟨_, by simpa [Obj.mapSeq] using eS4⟩
  refine wpAny_pure ⟨plainId_quiet F.plain_extend_loop _, ?_⟩
  have IL : Inv X pins σ (upd H s.heap.objs.size (.lst [])) { s with heap := g2 } := I.laid (t' := s.toks) kp2 (Nat.le_refl _) ⟨Nat.zero_le _, [], n2, .nil, eS4⟩
  refine zip_loop hc D m1 m2 hS L hsz .none (fun acc H2 s2 hl hP I2 => ?_) X.A.in1 (I.ok.hd hc) (min xs.length ys.length) [] _ _ rfl (Nat.zero_le _) P0 IL ?_ fun b hb => ?_
  · exact ⟨rfl, .ref s.heap.objs.size, H2, I2, rfl, fin acc H2 hl hP⟩
  · obtain ⟨x0, y0, hTO⟩ := hTO
    exact ⟨kp2 _ _ hTI, h1.at fun o e => kp2 _ _ e, h2.at fun o e => kp2 _ _ e, ⟨x0, y0, kp2 _ _ hTO⟩, .inl (kp2 _ _ hz)⟩
  · obtain ⟨f0, f1⟩ := hf b hb
    exact ⟨by rw [upd_ne (Nat.ne_of_lt (lt b hb))]; exact f0, f1⟩
end
/-! ### the expression -/
def tLz (K : Frag) (ta : TA) : TE := fun σ H Q => ta σ H fun vs H1 => ∃ b1 b2 a1 a2 xs ys, vs = [.ref a1, .ref a2] ∧ SqB K H1 b1 a1 xs ∧ SqB K H1 b2 a2 ys ∧ min xs.length ys.length < sizeLine ∧
  ∀ S, H1 S = none → ∃ P, LzP K b1 b2 a1 a2 S xs ys P ∧ P [] (upd H1 S (.lst [])) ∧ ∀ acc H2, acc.length = min xs.length ys.length → P acc H2 → Q (.ref S) H2
theorem pe_lz {X : Cx} {a b : Expr} {ta : TA} {p p2 pos pos2 : Pos} (hc : X.calm = true) (hgl : Gl X "list") (hml : X.mg "list" = none) (hg : Gl X "zip") (hm : X.mg "zip" = none) (ha : PA X [a, b] ta) (pa : plainE a = true) (pb : plainE b = true) :
    PE X (.Call (.Name "list" p) [.Call (.Name "zip" p2) [a, b] [] pos2] [] pos) (tLz X.K ta) := by
  refine ⟨fun pins s σ H Q I h => ?_⟩
  refine Call_ (ld_blt I hgl hml PyProof.Rows.boot_list (PyProof.Rows.callWith_type1 ?_ rfl rfl))
  refine Calls.spliced_cons (Call_ (ld_blt I hg hm PyProof.Rows.boot_zip (PyProof.Rows.callWith_type1 (thn (ha.run pos2 pins s σ H _ I h) fun us s1 ⟨vs, H1, I1, r1, q1⟩ => ?_) (star_cons pa) (star_any (by simp [pb])))))
  obtain ⟨b1, b2, a1, a2, xs, ys, ex, hqx, hqy, hsz, q⟩ := q1
  subst ex
  obtain ⟨u1, u2, rfl, r1, r2⟩ := vals2 r1
  cases r1
  cases r2
  obtain ⟨its, rv, p1, _⟩ := seqB I1 hqx
  obtain ⟨its2, rv2, p2, _⟩ := seqB I1 hqy
  have la := p1.lt
  have lb := p2.lt
  refine zip_begins2 (begB b1 a1 its.toArray) (begB b2 a2 its2.toArray) p1 p2 fun h' hz hTI hTO h1 h2 hsz' hk => Calls.spliced_nil ?_
  have I2 : Inv X pins σ H1 { s1 with heap := h' } := I1.kept (t' := s1.toks) hk
  refine lz_call hc I2 (zip_sep _ _ _ la lb) (Nat.ne_of_lt la) (Nat.ne_of_lt (Nat.lt_succ_of_lt lb)) hz hTI ⟨_, _, hTO⟩ (itB0 h1) (itB0 h2) (fun c hcm => ?_) hsz q
  have e' : c = s1.heap.objs.size + 4 ∨ c = s1.heap.objs.size + 2 ∨ c = s1.heap.objs.size + 3 ∨ c = s1.heap.objs.size ∨ c = s1.heap.objs.size + 1 := by simpa using hcm
  have hle : s1.heap.objs.size ≤ c := by
    rcases e' with z | z | z | z | z
    · rw [z]; exact Nat.le_add_right _ _
    · rw [z]; exact Nat.le_add_right _ _
    · rw [z]; exact Nat.le_add_right _ _
    · rw [z]; exact Nat.le_refl _
    · rw [z]; exact Nat.le_add_right _ _
  have f5 := I1.fpOk (H' := H1) hle (I1.hok.fresh hle)
  exact f5
end TP
end

section
set_option linter.all false
set_option maxRecDepth 100000
/-! Operand lists; built-in functions called. -/
namespace TP
open PySem L2 PySem.Spec PyProof.Rows
section
variable {Y : Fx} {E : XK} {X : Cx} {e : Expr} {es : List Expr} {pos p p2 pos2 : Pos}
theorem ORL.mono {C C' : Ct} {F F' : Hp} {σ : LS} (hK : C'.K = C.K) (sf : Same F F') : ∀ {vs : List V} {os : List Opr}, ORL C F σ vs os → ORL C' F' σ vs os
  | [], [], _ => trivial
  | [], _ :: _, h => h.elim
  | _ :: _, [], h => h.elim
  | v :: vs, o :: os, h => by
    refine ⟨?_, ORL.mono hK sf h.2⟩
    have h1 : OR C F σ v o := h.1
    cases o with
    | dt x =>
      show Dv C'.K F' v x
      rw [hK]
      exact Dv.mono sf _ _ h1
    | sl i => exact h1
theorem so_nilO : PA X [] (tOs Y E fun s => .ret ([], s)) := pa_imp pa_nil fun σ H Q ⟨C, F, dk, s, hY, hE, r, q⟩ => q F H dk [] r trivial
theorem so_consO {f : S → M (Opr × S)} {g : S → M (List Opr × S)} (ha : PE X e (tO Y E f)) (hb : PA X es (tOs Y E g)) (hs : plainE e = true) :
    PA X (e :: es) (tOs Y E fun s => (f s).bind fun r => (g r.2).bind fun q => .ret (r.1 :: q.1, q.2)) := by
  refine pa_imp (pa_cons ha hb (star_cons hs)) fun σ H Q ⟨C, F, dk, s, hY, hE, r, q⟩ => ?_
  refine one hY hE r (fun _ _ z => z) q fun F1 H1 d1 o1 s1 x r1 h1 hq => ?_
  refine ⟨C.now F1 d1, F1, d1, s1, hY, hE, r1.now, ((M.all_bind _).mp hq).mono (fun p hp F2 H2 d2 vs r2 h2 => ?_) fun c w hw => hw.now r1.w⟩
  exact hp F2 H2 d2 (x :: vs) (r2.unnow r1.w) ⟨h1.mono r2.w.ff, ORL.mono (C := C.now F1 d1) (C' := C) rfl (Same.refl F2) h2⟩
theorem bi_rd {b : Bi} {f : S → M (List Opr × S)} {σ : LS} {H : Hp} {Q : VK} (q : tV Y E (fun s => (f s).bind fun r => (M.ofOpt ((resL r.2 r.1).bind (biD b))).bind fun v => .ret (v, r.2)) σ H Q) : tCB (rB Y b) (tOs Y E f) σ H Q := by
  obtain ⟨C, F, dk, s, hY, hE, r, q⟩ := q
  refine ⟨C, F, dk, s, hY, hE, r, ((M.all_bind _).mp q).mono (fun p hp F1 H1 d1 vs r1 h1 => ?_) fun _ _ z => z⟩
  obtain ⟨ds, v, e1, e2, hv⟩ := all_bind_opt hp
  exact ⟨C, F1, d1, σ, p.2, ds, v, hY, r1, ORL.rv r1 h1 e1, e2, fun F' H' dk' z r2 => hv F' H' dk' z r2⟩
/-- a built-in of the module of built-ins -/
theorem so_bi {b : Bi} {f : S → M (List Opr × S)} (hK : X.K = Y.K) (hc : X.calm = true) (hgd : X.A.guards = some []) (hu : X.A.units + 200 < cLine) (hb : biOk b = true) (hg : Gl X (biN b)) (hm : X.mg (biN b) = none) (hv : bootBuiltins (biN b) = some (biV b)) (hn : biN b ≠ "__name__") (hdb : (biN b == ("__debug__" : Str)) = false)
    (ha : PA X (e :: es) (tOs Y E f)) (hp : (e :: es).all plainE = true) : PE X (.Call (.Name (biN b) p) (e :: es) [] pos) (tV Y E fun s => (f s).bind fun r => (M.ofOpt ((resL r.2 r.1).bind (biD b))).bind fun v => .ret (v, r.2)) := by
  have hcr := crB hK hc hgd hu b hb
  obtain ⟨p1, p3⟩ := Bool.and_eq_true_iff.mp (by simpa only [List.all_cons] using hp)
  have go : PE X (.Call (.Name (biN b) p) (e :: es) [] pos) (tCB (rB Y b) (tOs Y E f)) := by
    generalize hV : biV b = v at hcr hv
    cases v with
    | builtin id => exact pe_callB hcr hg hm hv ha hn hdb (star_cons p1) (star_any p3)
    | type T => exact pe_callTy hcr hg hm hv ha hn hdb (star_cons p1) (star_any p3)
    | _ => cases b <;> cases hV
  exact pe_imp go fun σ H Q q => bi_rd q
/-- a built-in function that is a name of the module -/
theorem so_biG {b : Bi} {id : String} {f : S → M (List Opr × S)} (hK : X.K = Y.K) (hc : X.calm = true) (hgd : X.A.guards = some []) (hu : X.A.units + 200 < cLine) (hb : biOk b = true) (hid : biV b = .builtin id) (hg : Gl X (biN b)) (hm : X.mg (biN b) = some (.builtin id)) (hdb : (biN b == ("__debug__" : Str)) = false)
    (ha : PA X (e :: es) (tOs Y E f)) (hp : (e :: es).all plainE = true) : PE X (.Call (.Name (biN b) p) (e :: es) [] pos) (tV Y E fun s => (f s).bind fun r => (M.ofOpt ((resL r.2 r.1).bind (biD b))).bind fun v => .ret (v, r.2)) := by
  have hcr := crB hK hc hgd hu b hb
  rw [hid] at hcr
  obtain ⟨p1, p3⟩ := Bool.and_eq_true_iff.mp (by simpa only [List.all_cons] using hp)
  exact pe_imp (pe_callBfun hcr hg hm ha hdb (star_cons p1) (star_any p3)) fun σ H Q q => bi_rd q
/-! ### list(zip(a, b)) -/
def Kp (K : Frag) (H : Hp) (b : Bool) (a : Addr) (xs : List V) (S : Addr) : Prop := ∀ H' : Hp, (a ≠ S → ∀ o, H a = some o → H' a = some o) → SqB K H' b a xs
theorem kp_of {K : Frag} {H : Hp} {b : Bool} {a S : Addr} {xs : List V} {ob : HO} (h : SqB K H b a xs) (hS : H S = none) : Kp K (upd H S ob) b a xs S := by
  intro H' k
  have rd : ∀ u, Rd H a u → Rd H' a u := fun u hr => by
    rcases hr with e | ⟨o, e⟩
    · have ne : a ≠ S := ne_of_none e hS
      exact .inl (k ne _ (by rw [upd_ne ne]; exact e))
    · have ne : a ≠ S := ne_of_none e hS
      exact .inr ⟨o, k ne _ (by rw [upd_ne ne]; exact e)⟩
  cases b with
  | true =>
    rcases h with h | h
    · exact .inl (rd _ h)
    · exact .inr h
  | false =>
    rcases h with h | h
    · exact .inl (rd _ h)
    · exact .inr h
theorem Kp.step {K : Frag} {H : Hp} {b : Bool} {a S T : Addr} {xs : List V} {o1 o2 : HO} (h : Kp K H b a xs S) (hT : H T = none) : Kp K (upd (upd H T o1) S o2) b a xs S := fun H' k => h H' fun ne o e => k ne o (by rw [upd_ne ne, upd_ne (ne_of_none e hT)]; exact e)
theorem Kp.here {K : Frag} {H : Hp} {b : Bool} {a S : Addr} {xs : List V} (h : Kp K H b a xs S) : SqB K H b a xs := h H fun _ _ e => e
theorem rv_seq {C : Ct} {F H : Hp} {dk : List (Addr × Addr)} {σ : LS} {s : S} (r : Rel C F H dk σ s) {v : V} {x : D} {xs : List D} (h : Rv C.K F H v x) (e : seqD x = some xs) : ∃ b a vs, v = .ref a ∧ SqB C.K H b a vs ∧ DvL C.K F vs xs := by
  cases x with
  | list ys =>
    have e' := Option.some.inj e
    subst e'
    obtain ⟨a, vs, ev, ha, dv⟩ := h
    exact ⟨true, a, vs, ev, SqL.of ha, dv⟩
  | tuple ys =>
    have e' := Option.some.inj e
    subst e'
    obtain ⟨a, vs, ev, ha, dv⟩ := h.tup_ r.w
    exact ⟨false, a, vs, ev, ha, dv⟩
  | _ => cases e
theorem take_pairs {xs ys : List D} {i : Nat} {x y : D} (h1 : xs[i]? = some x) (h2 : ys[i]? = some y) : (pairsD xs ys).take (i + 1) = (pairsD xs ys).take i ++ [.tuple [x, y]] := by
  have e : (pairsD xs ys)[i]? = some (.tuple [x, y]) := by
    unfold pairsD
    rw [List.getElem?_zipWith, h1, h2]
  rw [List.take_succ, e]
  rfl
theorem lz_rd {f : S → M (List Opr × S)} (hK : X.K = Y.K) {σ : LS} {H : Hp} {Q : VK} (hlen : ∀ s P R, (f s).All P R → (f s).All (fun r => P r ∧ r.1.length = 2) R) (q : tV Y E (fun s => (f s).bind fun r => (M.ofOpt ((resL r.2 r.1).bind (biD .listZip))).bind fun v => .ret (v, r.2)) σ H Q) : tLz X.K (tOs Y E f) σ H Q := by
  obtain ⟨C, F, dk, s, hY, hE, r, q⟩ := q
  refine ⟨C, F, dk, s, hY, hE, r, (hlen _ _ _ ((M.all_bind _).mp q)).mono (fun p hp F1 H1 d1 vs r1 h1 => ?_) fun _ _ z => z⟩
  obtain ⟨hp, hl⟩ := hp
  obtain ⟨ds, v, e1, e2, hv⟩ := all_bind_opt hp
  have hr := ORL.rv r1 h1 e1
  match ds, hr, e2 with
  | [dx, dy], hr, e2 =>
    obtain ⟨v1, v2, ev, r2, r3⟩ := hr.two
    obtain ⟨xs, ex, e3⟩ := bind_opt (show ((seqD dx).bind fun xs => (seqD dy).bind fun ys => if min xs.length ys.length < 16777216 then some (Vl.own (pairsD xs ys)) else none) = some v from e2)
    obtain ⟨ys, ey, e4⟩ := bind_opt e3
    obtain ⟨hsz, ev2⟩ := ite_some e4
    obtain ⟨b1, a1, ws1, ea1, s1, dv1⟩ := rv_seq r1 r2 ex
    obtain ⟨b2, a2, ws2, ea2, s2, dv2⟩ := rv_seq r1 r3 ey
    have l1 := dv1.length
    have l2 := dv2.length
    rw [← fK hY hK]
    refine ⟨b1, b2, a1, a2, ws1, ws2, by rw [ev, ea1, ea2], s1, s2, by rw [l1, l2, line_eq]; exact hsz, fun S hS => ⟨fun acc H2 => ∃ F2, Same F1 F2 ∧ acc.length ≤ (pairsD xs ys).length ∧ Rel1 C F2 H2 d1 σ p.2 (.ref S) (.own ((pairsD xs ys).take acc.length)) ∧ Kp C.K H2 b1 a1 ws1 S ∧ Kp C.K H2 b2 a2 ws2 S ∧ H2 S = some (.lst acc), ⟨?_, ?_⟩, ?_, ?_⟩⟩
    · rintro acc H2 ⟨F2, sf, _, r4, k1, k2, eS⟩
      exact ⟨k1.here, k2.here, eS⟩
    · rintro acc x y H2 T ⟨F2, sf, hle, r4, k1, k2, eS⟩ hx hy hT
      have hlt1 : acc.length < ws1.length := (List.getElem?_eq_some_iff.mp hx).1
      have hlt2 : acc.length < ws2.length := (List.getElem?_eq_some_iff.mp hy).1
      obtain ⟨x', ex', dx'⟩ := dv1.getV hx
      obtain ⟨y', ey', dy'⟩ := dv2.getV hy
      have hle2 : acc.length + 1 ≤ (pairsD xs ys).length := by rw [pairs_len]; omega
      have nS : S ≠ T := ne_of_none eS hT
      have r5 : Rel1 C (upd F2 T (.tup [x, y])) (upd H2 T (.tup [x, y])) d1 σ p.2 (.ref S) (.own ((pairsD xs ys).take acc.length)) := Rel.newF r4 hT
      obtain ⟨vs5, eS5, dv5, _, _, _⟩ := r5.plus
      have ev5 : vs5 = acc := by
        rw [upd_ne nS, eS] at eS5
        exact (HO.lst.inj (Option.some.inj eS5)).symm
      subst ev5
      have hF2 : F2 T = none := r4.w.freeF hT
      have dt : Dv C.K (upd F2 T (.tup [x, y])) (.ref T) (.tuple [x', y']) := .tup (.inl (.inl upd_same)) (.cons (Dv.mono (sf.trans (same_upd hF2)) _ _ dx') (.cons (Dv.mono (sf.trans (same_upd hF2)) _ _ dy') .nil))
      refine ⟨upd F2 T (.tup [x, y]), sf.trans (same_upd hF2), by rw [List.length_append, List.length_singleton]; exact hle2, ?_, k1.step hT, k2.step hT, upd_same⟩
      rw [List.length_append, List.length_singleton, take_pairs ex' ey']
      exact r5.upd_ (dv5.append (.cons dt .nil))
    · exact ⟨F1, Same.refl F1, Nat.zero_le _, r1.newOwn hS .nil, kp_of s1 hS, kp_of s2 hS, upd_same⟩
    · rintro acc H2 hacc ⟨F2, sf, hle, r4, k1, k2, eS⟩
      have e5 : (pairsD xs ys).take acc.length = pairsD xs ys := List.take_of_length_le (by rw [pairs_len, hacc]; omega)
      rw [e5] at r4
      exact hv F2 H2 d1 _ (by rw [← ev2]; exact r4)
theorem so_lz {a b : Expr} {f : S → M (List Opr × S)} (hK : X.K = Y.K) (hlen : ∀ s P R, (f s).All P R → (f s).All (fun r => P r ∧ r.1.length = 2) R) (hc : X.calm = true) (hgl : Gl X "list") (hml : X.mg "list" = none) (hg : Gl X "zip") (hm : X.mg "zip" = none) (ha : PA X [a, b] (tOs Y E f)) (pa : plainE a = true) (pb : plainE b = true) :
    PE X (.Call (.Name "list" p) [.Call (.Name "zip" p2) [a, b] [] pos2] [] pos) (tV Y E fun s => (f s).bind fun r => (M.ofOpt ((resL r.2 r.1).bind (biD .listZip))).bind fun v => .ret (v, r.2)) :=
  pe_imp (pe_lz hc hgl hml hg hm ha pa pb) fun σ H Q q => lz_rd hK hlen q
end
end TP
end

section
set_option linter.all false
set_option maxRecDepth 100000
/-! The deck: a dict of three texts' keys: a list of ints, two ints. -/
namespace TP
open PySem L2 PySem.Spec PyProof.Rows
def deckHO (L M D : Str) (b : Addr) (m d : Int) : HO := .dK [(.inr L, .ref b), (.inr M, .int m), (.inr D, .int d)]
def dkN (L M D : Str) : Dk where
  at_ H p := ∃ (m d : Int) (ns : List Int), H p.1 = some (deckHO L M D p.2 m d) ∧ H p.2 = some (.lst (ns.map V.int)) ∧ ns.length ≤ 63
  loc := fun H H' p e1 e2 ⟨m, d, ns, h1, h2, h3⟩ => ⟨m, d, ns, e1.trans h1, e2.trans h2, h3⟩
  here := fun H p ⟨m, d, ns, h1, h2, h3⟩ => ⟨by rw [h1]; exact (fun z => nomatch z), by rw [h2]; exact (fun z => nomatch z)⟩
section
variable {C : Ct} {F H H' : Hp} {dk : List (Addr × Addr)} {σ : LS} {s : S} {v : V} {x : Vl} {a b : Addr} {L M D : Str}
theorem Rel.deckSet (r : Rel C F H dk σ s) (hC : C.dk = dkN L M D) (hp : (a, b) ∈ dk) {m d : Int} {ns : List Int} (ha : H' a = some (deckHO L M D b m d)) (hb : H' b = some (.lst (ns.map V.int))) (hn : ns.length ≤ 63) (ho : ∀ c, c ≠ a → c ≠ b → H' c = H c) : Rel C F H' dk σ s := by
  have hm := mem_vol hp
  have out : ∀ c, c ∉ vol dk → H' c = H c := fun c hc => ho c (fun e => hc (e ▸ hm.1)) fun e => hc (e ▸ hm.2)
  have keep : ∀ {c : Addr} {o : HO}, F c = some o → H' c = some o := fun {c o} e => by
    have nv : c ∉ vol dk := fun z => by rw [(r.w.df c z).1] at e; cases e
    rw [out c nv]
    exact r.w.fh _ _ e
  have da0 : ∀ p ∈ dk, (dkN L M D).at_ H p := fun p hp => by have := r.w.da p hp; rw [hC] at this; exact this
  obtain ⟨m0, d0, ns0, a1, a2, _⟩ := da0 _ hp
  obtain ⟨fp, h1, h2⟩ := r.sl
  refine ⟨⟨fun c o e => keep e, fun c o e => ?_, r.w.ff, r.w.dd, fun p hq => ?_, r.w.df, r.w.fb⟩, r.len, fp, fun i => ?_, h2⟩
  · have nv : c ∉ vol dk := fun z => by rw [(r.w.df c z).2] at e; cases e
    rw [out c nv]
    exact r.w.bh _ _ e
  · rw [hC]
    obtain ⟨m1, d1, ns1, b1, b2, b3⟩ := da0 _ hq
    have e2 : p.1 = a → p.2 = b := fun e => by
      rw [e, a1] at b1
      have b1' := Option.some.inj b1
      unfold deckHO at b1'
      simp only [HO.dK.injEq, List.cons.injEq, Prod.mk.injEq, V.ref.injEq, true_and] at b1'
      exact b1'.1.symm
    have n1 : p.1 ≠ b := fun e => by
      rw [e, a2] at b1
      have b1' := Option.some.inj b1
      unfold deckHO at b1'
      cases b1'
    have n2 : p.2 ≠ a := fun e => by
      rw [e, a1] at b2
      have b2' := Option.some.inj b2
      unfold deckHO at b2'
      cases b2'
    by_cases e : p.1 = a
    · refine ⟨m, d, ns, ?_, ?_, hn⟩
      · rw [e2 e, e]; exact ha
      · rw [e2 e]; exact hb
    · by_cases e' : p.2 = b
      · refine ⟨m1, d1, ns, ?_, ?_, hn⟩
        · rw [ho _ e n1]; exact b1
        · rw [e']; exact hb
      · exact ⟨m1, d1, ns1, by rw [ho _ e n1]; exact b1, by rw [ho _ n2 e']; exact b2, b3⟩
  · have z := h1 i
    generalize fp i = f at z
    generalize σ.getD i none = si at z
    generalize gt s i = gi at z
    cases z with
    | no _ => exact .no _
    | d h => exact .d h
    | own q =>
      obtain ⟨o1, o2, o3, ws, o4, o5⟩ := q
      exact .own ⟨o1, o2, o3, ws, by rw [out _ o3]; exact o4, o5⟩
    | deck h => exact .deck h
    | scr h => exact .scr h
theorem isDeck_eq {o : Option Vl} {u : Unit} (h : isDeck o = some u) : o = some .deck := by
  match o, h with
  | some .deck, _ => rfl
theorem isScr_eq {o : Option Vl} {ns : List Int} (h : isScr o = some ns) : o = some (.scr ns) := by
  match o, h with
  | some (.scr ms), h => rw [show ms = ns from Option.some.inj h]
/-- the deck in a slot -/
theorem Rel.deckAt (r : Rel C F H dk σ s) (hC : C.dk = dkN L M D) {i : Nat} (e : gt s i = some .deck) : ∃ (a b : Addr) (m d : Int) (ns : List Int), σ[i]? = some (some (.ref a)) ∧ (a, b) ∈ dk ∧ H a = some (deckHO L M D b m d) ∧ H b = some (.lst (ns.map V.int)) ∧ ns.length ≤ 63 ∧ a ≠ b := by
  obtain ⟨v, fp, ev, z⟩ := r.at e
  cases z with
  | deck h =>
    rename_i a b
    have w := r.w.da _ h
    rw [hC] at w
    obtain ⟨m, d, ns, e1, e2, e3⟩ := w
    refine ⟨a, b, m, d, ns, ev, h, e1, e2, e3, fun z => ?_⟩
    have e1' : H a = some (deckHO L M D b m d) := e1
    have e2' : H b = some (.lst (ns.map V.int)) := e2
    rw [z, e2'] at e1'
    have := Option.some.inj e1'
    unfold deckHO at this
    cases this
theorem Rel.scrAt (r : Rel C F H dk σ s) {i : Nat} {ns : List Int} (e : gt s i = some (.scr ns)) : ∃ a, σ[i]? = some (some (.ref a)) ∧ SqL C.K F a (ns.map V.int) := by
  obtain ⟨v, fp, ev, z⟩ := r.at e
  cases z with
  | scr h => exact ⟨_, ev, h⟩
/-- the deck's three parts -/
theorem get_L {m d : Int} : valV [((.inr L : Key), V.ref b), (.inr M, .int m), (.inr D, .int d)] (.inr L) = some (.ref b) := valV_pos rfl
theorem inr_ne {x y : Str} (h : x ≠ y) : ¬ ((.inr x : Key) = .inr y) := fun e => h (Sum.inr.inj e)
theorem get_M (h : L ≠ M) {m d : Int} : valV [((.inr L : Key), V.ref b), (.inr M, .int m), (.inr D, .int d)] (.inr M) = some (.int m) := by
  rw [valV_neg (inr_ne h)]; exact valV_pos rfl
theorem get_D (h : L ≠ D) (h2 : M ≠ D) {m d : Int} : valV [((.inr L : Key), V.ref b), (.inr M, .int m), (.inr D, .int d)] (.inr D) = some (.int d) := by
  rw [valV_neg (inr_ne h), valV_neg (inr_ne h2)]; exact valV_pos rfl
theorem put_M (h : L ≠ M) (h3 : M ≠ D) {m d n : Int} : (.dK (putK [((.inr L : Key), V.ref b), (.inr M, .int m), (.inr D, .int d)] (.inr M) (.int n)) : HO) = deckHO L M D b n d := by
  unfold putK deckHO
  simp [inr_ne h, inr_ne h3, h, Ne.symm h3, h.symm]
theorem put_D (h : L ≠ D) (h3 : M ≠ D) {m d n : Int} : (.dK (putK [((.inr L : Key), V.ref b), (.inr M, .int m), (.inr D, .int d)] (.inr D) (.int n)) : HO) = deckHO L M D b m n := by
  unfold putK deckHO
  simp [inr_ne h, inr_ne h3, h, h3, h.symm]
end
section
variable {C : Ct} {F H H' : Hp} {dk : List (Addr × Addr)} {σ : LS} {s : S} {v : V} {x : Vl} {p : Addr} {o : HO}
/-- one more thing that stands and stays -/
def Ct.plusO (C : Ct) (a : Addr) (o : HO) : Ct := { C with B := upd C.B a o }
theorem Rel.plusO (r : Rel C F H dk σ s) (h : H p = none) : Rel (C.plusO p o) F (upd H p o) dk σ s := by
  obtain ⟨fp, h1, h2⟩ := r.sl
  have hF := r.w.freeF h
  have hV := r.w.freeV h
  refine ⟨⟨r.w.fh.trans (same_upd h), fun b u e => ?_, r.w.ff, r.w.dd, r.w.da_upd hV, fun b hb => ?_, fun b hb h0 => ?_⟩, r.len, fp, fun i => ?_, h2⟩
  · have e' : upd C.B p o b = some u := e
    by_cases hb : b = p
    · rw [hb, upd_same] at e' ⊢; exact e'
    · rw [upd_ne hb] at e' ⊢; exact r.w.bh _ _ e'
  · refine ⟨(r.w.df b hb).1, ?_⟩
    show upd C.B p o b = none
    rw [upd_ne (show b ≠ p from fun e => hV (e ▸ hb))]
    exact (r.w.df b hb).2
  · by_cases hbp : b = p
    · rw [hbp]; exact hF
    · have hb' : upd C.B p o b ≠ none := hb
      rw [upd_ne hbp] at hb'
      exact r.w.fb b hb' h0
  · have z := h1 i
    generalize fp i = f at z
    generalize σ.getD i none = si at z
    generalize gt s i = gi at z
    cases z with
    | no _ => exact .no _
    | d h => exact .d h
    | own q =>
      obtain ⟨o1, o2, o3, ws, o4, o5⟩ := q
      have hn := ne_of_none o4 h
      refine .own ⟨o1, ?_, o3, ws, by rw [upd_ne hn]; exact o4, o5⟩
      show upd C.B p o _ = none
      rw [upd_ne hn]
      exact o2
    | deck h => exact .deck h
    | scr h => exact .scr h
theorem wd_unplusO (b0 : C.B p = none) (w : Wd (C.plusO p o) F H dk) : Wd C F H dk := by
  have ne : ∀ {b : Addr} {u : HO}, C.B b = some u → b ≠ p := fun e z => by rw [z, b0] at e; cases e
  refine ⟨w.fh, fun b u e => w.bh b u ?_, w.ff, w.dd, w.da, fun b hb => ⟨(w.df b hb).1, ?_⟩, fun b hb h0 => w.fb b ?_ h0⟩
  · show upd C.B p o b = some u
    rw [upd_ne (ne e)]; exact e
  · have q : upd C.B p o b = none := (w.df b hb).2
    by_cases hp : b = p
    · rw [hp]; exact b0
    · rw [upd_ne hp] at q; exact q
  · show upd C.B p o b ≠ none
    cases e : C.B b with
    | none => exact absurd e hb
    | some u => rw [upd_ne (ne e), e]; exact (fun z => nomatch z)
theorem Rel1.newDeck {kL kM kD : Str} {m d : Int} {ns : List Int} (hC : C.dk = dkN kL kM kD) (b0 : C.B p = none) (f0 : C.F0 p = none) (r : Rel1 (C.plusO p (.dK [])) F H dk σ s v (.own (ns.map PyData.int))) (hn : ns.length ≤ 63) :
    ∃ b, v = .ref b ∧ H p = some (.dK []) ∧ Rel1 C F (upd H p (deckHO kL kM kD b m d)) ((p, b) :: dk) σ s (.ref p) .deck := by
  obtain ⟨fp, h1, h2⟩ := r.sl
  have bp : (C.plusO p (.dK [])).B p = some (.dK []) := upd_same
  have hp : H p = some (.dK []) := r.w.bh _ _ bp
  have fpn : F p = none := r.w.fb p (by rw [bp]; exact (fun z => nomatch z)) f0
  have pv : p ∉ vol dk := fun z => by have q := (r.w.df p z).2; rw [bp] at q; cases q
  have h0 : SR (C.plusO p (.dK [])) F H dk (some v) (some (.own (ns.map PyData.int))) (fp 0) := h1 0
  generalize hf : fp 0 = f at h0
  cases h0 with
  | own ow =>
    rename_i b
    obtain ⟨o1, o2, o3, ws, o4, o5⟩ := ow
    have ews := o5.ints
    subst ews
    have hbp : b ≠ p := fun e => by rw [e, hp] at o4; cases o4
    have o2' : upd C.B p (.dK []) b = none := o2
    rw [upd_ne hbp] at o2'
    have w := wd_unplusO b0 r.w
    have other : ∀ i c, c ∈ fp (i + 1) → c ≠ b := fun i c hc e => by
      have : b ∈ fp 0 := by rw [hf]; simp
      cases h2 _ _ c hc (e ▸ this)
    have vm : ∀ c, c ∈ vol ((p, b) :: dk) → c = p ∨ c = b ∨ c ∈ vol dk := fun c hc => by
      obtain ⟨z, hz, e⟩ := of_mem_vol hc
      rcases List.mem_cons.mp hz with e1 | e1
      · subst e1
        rcases e with e | e
        · exact .inl e
        · exact .inr (.inl e)
      · refine .inr (.inr ?_)
        rcases e with e | e
        · rw [e]; exact (mem_vol e1).1
        · rw [e]; exact (mem_vol e1).2
    refine ⟨b, rfl, hp, ⟨⟨fun c u e => ?_, fun c u e => ?_, w.ff, fun z hz => List.mem_cons_of_mem _ (w.dd z hz), fun z hz => ?_, fun c hc => ?_, w.fb⟩, r.len, fun j => match j with | 0 => [] | j + 1 => fp (j + 1), fun j => ?_, fun i j c hc hd => ?_⟩⟩
    · have hc : c ≠ p := fun z => by rw [z, fpn] at e; cases e
      rw [upd_ne hc]; exact w.fh _ _ e
    · have hc : c ≠ p := fun z => by rw [z, b0] at e; cases e
      rw [upd_ne hc]; exact w.bh _ _ e
    · rcases List.mem_cons.mp hz with e | e
      · subst e
        rw [hC]
        exact ⟨m, d, ns, upd_same, by rw [upd_ne hbp]; exact o4, hn⟩
      · have z1 : z.1 ≠ p := fun q => pv (q ▸ (mem_vol e).1)
        have z2 : z.2 ≠ p := fun q => pv (q ▸ (mem_vol e).2)
        exact C.dk.loc H _ z (upd_ne z1) (upd_ne z2) (w.da z e)
    · rcases vm c hc with e | e | e
      · rw [e]; exact ⟨fpn, b0⟩
      · rw [e]; exact ⟨o1, o2'⟩
      · exact w.df c e
    · cases j with
      | zero => exact .deck (List.mem_cons_self ..)
      | succ j =>
        have z := h1 (j + 1)
        have oth := other j
        show SR C F _ _ (σ.getD j none) (gt s j) (fp (j + 1))
        have z' : SR (C.plusO p (.dK [])) F H dk (σ.getD j none) (gt s j) (fp (j + 1)) := z
        generalize fp (j + 1) = f1 at z' oth
        generalize σ.getD j none = si at z'
        generalize gt s j = gi at z'
        cases z' with
        | no _ => exact .no _
        | d h => exact .d h
        | own q =>
          obtain ⟨q1, q2, q3, us, q4, q5⟩ := q
          rename_i c xs
          have c1 : c ≠ p := fun e => by rw [e, hp] at q4; cases q4
          have c2 : c ≠ b := oth c (List.mem_singleton.mpr rfl)
          have q2' : upd C.B p (.dK []) c = none := q2
          rw [upd_ne c1] at q2'
          refine .own ⟨q1, q2', fun hz => ?_, us, by rw [upd_ne c1]; exact q4, q5⟩
          rcases vm c hz with e | e | e
          · exact c1 e
          · exact c2 e
          · exact q3 e
        | deck h => exact .deck (List.mem_cons_of_mem _ h)
        | scr h => exact .scr h
    · cases i with
      | zero => cases hc
      | succ i =>
        cases j with
        | zero => cases hd
        | succ j => exact h2 _ _ c hc hd
end
end TP
end

section
set_option linter.all false
set_option maxRecDepth 100000
/-! The deck: what its pieces of program do. -/
namespace TP
open PySem L2 PySem.Spec PyProof.Rows
structure DkY (Y : Fx) (kL kM kD : Str) : Prop where
  dk : Y.dk = dkN kL kM kD
  n1 : kL ≠ kM
  n2 : kL ≠ kD
  n3 : kM ≠ kD
section
variable {Y : Fx} {E : XK} {X : Cx} {e : Expr} {x : Str} {p p2 pos : Pos} {i : Nat} {kL kM kD : Str}
theorem DkY.of (K : DkY Y kL kM kD) {C : Ct} (h : C.toFx = Y) : C.dk = dkN kL kM kD := by
  have : C.toFx.dk = dkN kL kM kD := by rw [h]; exact K.dk
  exact this
theorem dgL {H : Hp} {a b : Addr} {m d : Int} (h : H a = some (deckHO kL kM kD b m d)) : DGet H a (.str kL) (some (.ref b)) := by
  have := DGet.k (k := .inr kL) h
  rw [get_L] at this
  exact this
theorem so_deckGet (K : DkY Y kL kM kD) (hu : X.A.units + 1 < cLine) (hv : PE X (.Name x p) (tVar i)) {w : Bool} {key : Str} (hk : key = if w then kD else kM) {j : _} :
    PE X (.Subscript (.Name x p) (.Constant (.str key) j p2) pos) (tV Y E fun s => (M.ofOpt (isDeck (gt s i))).bind fun _ => .any fun r => .ret (.d (.int r), s)) := by
  refine pe_imp (pe_dget hu hv pe_str (fun _ _ => rfl)) fun σ H Q ⟨C, F, dk, s, hY, hE, r, q⟩ => ?_
  obtain ⟨u, e1, q⟩ := M.all_ofOpt ((M.all_bind _).mp q)
  obtain ⟨a, b, m, d, ns, ev, hp, ha, hb, hn, hab⟩ := r.deckAt (K.of hY) (isDeck_eq e1)
  cases w with
  | true =>
    rw [if_pos rfl] at hk
    have g := DGet.k (k := .inr kD) ha
    rw [get_D K.n2 K.n3] at g
    subst hk
    exact ⟨.ref a, ev, a, .int d, rfl, g, q d F H dk _ (r.with_d (.int d))⟩
  | false =>
    rw [if_neg Bool.false_ne_true] at hk
    have g := DGet.k (k := .inr kM) ha
    rw [get_M K.n1] at g
    subst hk
    exact ⟨.ref a, ev, a, .int m, rfl, g, q m F H dk _ (r.with_d (.int m))⟩
theorem st_deckPut (K : DkY Y kL kM kD) (hu : X.A.units + 1 < cLine) (hv : PE X (.Name x p) (tVar i)) {w : Bool} {key : Str} (hk : key = if w then kD else kM) {j : _} {pos' : Pos} {f : S → M (Vl × S)} (he : PE X e (tV Y E f))
    (hs : swapsWith e (some (.Subscript (.Name x p) (.Constant (.str key) j p2) pos')) pos.line X.env = pure false) :
    PS X (.Assign [.Subscript (.Name x p) (.Constant (.str key) j p2) pos'] e pos) (tS Y E fun s => (fz (f s)).bind fun r => (M.ofOpt (intD r.1)).bind fun _ => (M.ofOpt (isDeck (gt r.2 i))).bind fun _ => .ret (.nx r.2)) := by
  refine ps_imp (ps_dput hu hv pe_str (so_fz he) hs) fun D σ H ⟨C, F, dk, s, hY, hE, r, q⟩ => ?_
  refine oneF hY hE r (fun _ _ z => z) q fun F1 H1 d1 y s1 z r1 h1 hq => ?_
  obtain ⟨n, e1, hq⟩ := M.all_ofOpt ((M.all_bind _).mp hq)
  obtain ⟨u, e2, hq⟩ := M.all_ofOpt ((M.all_bind _).mp hq)
  obtain ⟨a, b, m, d, ns, ev, hp, ha, hb, hn, hab⟩ := r1.deckAt (K.of hY) (isDeck_eq e2)
  have ey := intD_eq e1
  have ey' : y = .int n := ey
  subst ey'
  cases h1
  cases w with
  | true =>
    rw [if_pos rfl] at hk
    have g := DPut.k (k := .inr kD) (v := .int n) ha (by rw [line_eq]; exact (by decide : (3 : Nat) < 16777216))
    rw [put_D K.n2 K.n3] at g
    subst hk
    exact ⟨.ref a, ev, a, _, rfl, g, hq F1 _ d1 σ (r1.deckSet (K.of hY) hp upd_same (by rw [upd_ne hab.symm]; exact hb) hn fun c c1 c2 => upd_ne c1)⟩
  | false =>
    rw [if_neg Bool.false_ne_true] at hk
    have g := DPut.k (k := .inr kM) (v := .int n) ha (by rw [line_eq]; exact (by decide : (3 : Nat) < 16777216))
    rw [put_M K.n1 K.n3] at g
    subst hk
    exact ⟨.ref a, ev, a, _, rfl, g, hq F1 _ d1 σ (r1.deckSet (K.of hY) hp upd_same (by rw [upd_ne hab.symm]; exact hb) hn fun c c1 c2 => upd_ne c1)⟩
theorem deckOk_eq {v : Vl} {u : Unit} (h : deckOk v = some u) : ∃ ns : List Int, v = .own (ns.map PyData.int) ∧ ns.length ≤ 63 := by
  cases v with
  | own xs =>
    have h' : (if xs.length ≤ 63 then (intsD xs).map fun _ => () else none) = some u := h
    by_cases hl : xs.length ≤ 63
    · rw [if_pos hl] at h'
      obtain ⟨ns, e1, _⟩ := map_opt h'
      have ex := intsD_eq e1
      refine ⟨ns, by rw [ex], ?_⟩
      rw [ex, List.length_map] at hl
      exact hl
    · rw [if_neg hl] at h'
      cases h'
  | _ => cases h
theorem so_deckNew (K : DkY Y kL kM kD) {xm : Str} {p1 p3 p4 p5 : Pos} {j1 j2 j3 j4 : _} {mi : Nat} {d0 : Int} (hv : PE X (.Name xm p4) (tVar mi)) {f : S → M (Vl × S)} (he : PE X e (tV Y E f)) :
    PE X (.Dict [some (.Constant (.str kL) j1 p1), some (.Constant (.str kM) j2 p2), some (.Constant (.str kD) j3 p3)] [e, .Name xm p4, .Constant (.int d0) j4 p5] pos)
      (tV Y E fun s => (f s).bind fun r => (M.ofOpt (deckOk r.1)).bind fun _ => (M.ofOpt (intV (gt r.2 mi))).bind fun _ => .ret (.deck, r.2)) := by
  refine pe_imp (pe_disp (pps_cons pe_str he (pps_cons pe_str hv (pps_cons pe_str pe_int pps_nil))) rfl rfl (by simp) (by exact (by decide : (3 : Nat) ≤ 15))) fun σ H Q ⟨C, F, dk, s, hY, hE, r, q⟩ => ?_
  intro p hp
  have b0 := r.w.freeB hp
  have f0 : C.F0 p = none := r.w.ff.free (r.w.freeF hp)
  refine ⟨C.plusO p (.dK []), F, dk, s, hY, hE, r.plusO hp, ((M.all_bind _).mp q).mono (fun z hz F1 H1 d1 v r1 => ?_) fun c z hz F1 H1 d1 v1 dx w1 => hz F1 H1 d1 v1 dx (wd_unplusO b0 w1)⟩
  obtain ⟨u, e1, hz⟩ := M.all_ofOpt ((M.all_bind _).mp hz)
  obtain ⟨m, e2, hz⟩ := M.all_ofOpt ((M.all_bind _).mp hz)
  obtain ⟨ns, en, hn⟩ := deckOk_eq e1
  rw [en] at r1
  obtain ⟨b, rfl, hp1, r2⟩ := r1.newDeck (m := m) (d := d0) (K.of hY) b0 f0 hn
  obtain ⟨vm, fpm, evm, sm⟩ := r1.tail.at (intV_eq e2)
  cases sm with
  | d hm =>
    cases hm
    refine ⟨.int m, evm, hp1, [(.inr kL, .ref b), (.inr kM, .int m), (.inr kD, .int d0)], rfl, (by decide : (3 : Nat) ≤ 15), ?_⟩
    have em : (.dK (mergeK [] [((.inr kL : Key), V.ref b), (.inr kM, .int m), (.inr kD, .int d0)]) : HO) = deckHO kL kM kD b m d0 := by
      have n1 := K.n1
      have n2 := K.n2
      have n3 := K.n3
      unfold mergeK deckHO
      simp [putK, inr_ne n1, inr_ne n2, inr_ne n3, n1, n2, n3]
    rw [em]
    exact hz F1 _ _ _ r2
theorem so_scrCut (hK : X.K = Y.K) (hv : PE X (.Name x p) (tVar i)) {n : Nat} {j : _} {p3 : Pos} :
    PE X (.Subscript (.Name x p) (.Slice none (some (.Constant (.int (n : Int)) j p2)) none p3) pos) (tV Y E fun s => (M.ofOpt (isScr (gt s i))).bind fun ns => .ret (.own ((ns.take n).map PyData.int), s)) := by
  refine pe_imp (pe_slice sl_list hv po_none (po_some pe_int)) fun σ H Q ⟨C, F, dk, s, hY, hE, r, q⟩ => ?_
  obtain ⟨ns, e1, q⟩ := M.all_ofOpt ((M.all_bind _).mp q)
  obtain ⟨a, ev, hs⟩ := r.scrAt (isScr_eq e1)
  have hCK : C.K = X.K := by
    have : C.toFx.K = X.K := by rw [hY, hK]
    exact this
  refine ⟨.ref a, ev, n, rfl, a, ns.map V.int, rfl, by rw [← hCK]; exact r.w.fh.seq hs, fun b hb => ?_⟩
  have ec : cutV (ns.map V.int) none (some (n : Int)) = (ns.take n).map V.int := by
    unfold cutV
    rw [HT.sIx_none, HT.sIx_nat, List.drop_zero, Nat.sub_zero, List.length_map, List.map_take]
    by_cases h : n ≤ ns.length
    · rw [Nat.min_eq_left h]
    · rw [Nat.min_eq_right (by omega), List.take_of_length_le (by simp), List.take_of_length_le (by rw [List.length_map]; omega)]
  rw [ec]
  exact q F _ dk _ (r.newOwn hb (dv_ints _))
end
end TP
end

section
set_option linter.all false
set_option maxRecDepth 100000
/-! The deck: a cell is taken. -/
namespace TP
open PySem L2 PySem.Spec PyProof.Rows
theorem shaped_ints (ns : List Int) : SeqAt.shaped (.list (ns.map PyData.int)) = true := by
  have h1 : ∀ l : List Int, PyData.canLayAll0 (l.map PyData.int) = true := fun l => by
    induction l with
    | nil => rfl
    | cons n r ih => simp [PyData.canLayAll0, PyData.canLay0, ih]
  have h2 : (PyData.list (ns.map PyData.int)).depth ≤ 64 := by
    cases ns with
    | nil => decide
    | cons n r =>
      have : ∀ l : List Int, PyData.depthAll (l.map PyData.int) ≤ 1 := fun l => by
        induction l with
        | nil => decide
        | cons n r ih => simp only [List.map_cons, PyData.depthAll, PyData.depth]; omega
      simp only [PyData.depth]
      have := this (n :: r)
      omega
  exact Bool.and_eq_true_iff.mpr ⟨by simp only [PyData.canLay0]; exact h1 ns, decide_eq_true h2⟩
theorem eqv_nil (ns : List Int) : PyData.eqv (.list (ns.map PyData.int)) (.list []) = ns.isEmpty := by
  cases ns <;> simp [PyData.eqv, PyData.eqvAll]
theorem dp_ints {K : Frag} {H : Hp} : ∀ ns : List Int, DpAll K H (ns.map V.int) (ns.map PyData.int)
  | [] => .nil
  | n :: r => .cons (.int n) (dp_ints r)
section
variable {Y : Fx} {E : XK} {X : Cx} {x xj xm : Str} {i j m : Nat} {kL kM kD : Str}
/-- deck[L] -/
theorem so_deckL (hu : X.A.units + 1 < cLine) {p p2 pos : Pos} {k : _} (hv : PE X (.Name x p) (tVar i)) : PE X (.Subscript (.Name x p) (.Constant (.str kL) k p2) pos) (tDGet (tVar i) (tC (.str kL))) :=
  pe_dget hu hv pe_str (fun _ _ => rfl)
/-- deck[L] != [] -/
theorem pt_deckFull (hu : X.A.units + 64 < cLine) {p p2 p3 p4 pos : Pos} {k : _} (hv : PE X (.Name x p) (tVar i)) :
    PT X (.Compare (.Subscript (.Name x p) (.Constant (.str kL) k p2) p3) [.NotEq] [.List [] p4] pos) (tTest (tOp (rNeD X.K) (tDGet (tVar i) (tC (.str kL))) (tLst tNil))) :=
  pt_cmpR (op_neD hu) (so_deckL (by omega) hv) (pe_lst pa_nil) rfl
theorem full_rd {K : Frag} {C : Ct} {F H : Hp} {dk : List (Addr × Addr)} {σ : LS} {s : S} {a b : Addr} {mm d : Int} {ns : List Int} {Q : Bool → Hp → Prop} (r : Rel C F H dk σ s) (ev : σ[i]? = some (some (.ref a))) (ha : H a = some (deckHO kL kM kD b mm d)) (hb : H b = some (.lst (ns.map V.int)))
    (q : ∀ F' H', Rel C F' H' dk σ s → H' a = H a → H' b = H b → Q (!ns.isEmpty) H') : tTest (tOp (rNeD K) (tDGet (tVar i) (tC (.str kL))) (tLst tNil)) σ H Q := by
  refine ⟨.ref a, ev, a, .ref b, rfl, dgL ha, Nat.zero_le _, fun p hp => ?_⟩
  have hap : a ≠ p := ne_of_none ha hp
  have hbp : b ≠ p := ne_of_none hb hp
  refine ⟨.list (ns.map PyData.int), .list [], .lst (SqL.of (by rw [upd_ne hbp]; exact hb)) (dp_ints ns), .lst (SqL.of upd_same) .nil, shaped_ints ns, by decide, ?_⟩
  rw [eqv_nil]
  exact ⟨_, rfl, q _ _ (r.newF hp) (upd_ne hap) (upd_ne hbp)⟩
/-- cell >= 10 ** 18 -/
theorem pt_big {k3 k4 : _} {p p12 p13 p14 p15 : Pos} (hv : PE X (.Name xj p) (tVar j)) : PT X (.Compare (.Name xj p) [.GtE] [.BinOp (.Constant (.int 10) k3 p12) .Pow (.Constant (.int 18) k4 p13) p14] p15) (tB (tCmp (fun i j => decide (j ≤ i)) (tVar j) (tOp (rI CPow fun i j => .int (i ^ j.toNat)) (tC (.int 10)) (tC (.int 18))))) :=
  pt_cmp (pc_ge hv (pe_op op_pow pe_int pe_int)) (by exact nobehind _ (by decide) (by decide))
theorem big_rd {σ : LS} {H : Hp} {c : Int} {Q : Bool → Hp → Prop} (ev : σ[j]? = some (some (.int c))) (q : Q (decide (10 ^ 18 ≤ c)) H) : tB (tCmp (fun i j => decide (j ≤ i)) (tVar j) (tOp (rI CPow fun i j => .int (i ^ j.toNat)) (tC (.int 10)) (tC (.int 18)))) σ H Q :=
  ⟨.int c, ev, 10, 18, rfl, rfl, ⟨by decide, by decide, by decide⟩, c, _, rfl, rfl, _, rfl, q⟩
/-- cell // max(2, many) -/
theorem pe_share {k6 : _} {p p1 p2 p3 p4 pos : Pos} (hc : X.calm = true) (hg : Gl X "max") (hmm : X.mg "max" = none) (hv : PE X (.Name xj p) (tVar j)) (hm : PE X (.Name xm p3) (tVar m)) :
    PE X (.BinOp (.Name xj p) .FloorDiv (.Call (.Name "max" p1) [.Constant (.int 2) k6 p2, .Name xm p3] [] p4) pos)
      (tOp (rI CDivW fun i j => .int (i / j)) (tVar j) (tCB (fun xs H Q => ∃ i j, xs = [.int i, .int j] ∧ Q (.int (if j > i then j else i)) H) (tCons (tC (.int 2)) (tCons (tVar m) tNil)))) :=
  pe_op op_fdivW hv (pe_callB (call_max2 hc) hg hmm (by rfl) (pa_cons pe_int (pa_cons hm pa_nil)))
theorem mxOk_eq {many : Int} {u : Unit} (h : mxOk many = some u) : CDivW 0 (mx2 many) := by
  obtain ⟨h1, _⟩ := ite_some h
  refine ⟨?_, h1⟩
  unfold mx2
  split <;> omega
theorem share_rd {σ : LS} {H : Hp} {c many : Int} {Q : VK} (ev : σ[j]? = some (some (.int c))) (em : σ[m]? = some (some (.int many))) (hd : CDivW 0 (mx2 many)) (q : Q (.int (c / mx2 many)) H) :
    tOp (rI CDivW fun i j => .int (i / j)) (tVar j) (tCB (fun xs H Q => ∃ i j, xs = [.int i, .int j] ∧ Q (.int (if j > i then j else i)) H) (tCons (tC (.int 2)) (tCons (tVar m) tNil))) σ H Q :=
  ⟨.int c, ev, .int many, em, 2, many, rfl, c, mx2 many, rfl, rfl, hd, q⟩
theorem get_setNe {σ : LS} {n : Nat} {v : Option V} (h : n ≠ j) : (σ.set j v)[n]? = σ[n]? := by
  rw [List.getElem?_set, if_neg (fun e => h e.symm)]
theorem st_deckPop (K : DkY Y kL kM kD) (hu : X.A.units + 64 < cLine) (hc : X.calm = true) (hN : X.N.Nodup) (hj : X.N[j]? = some xj) (hxj : Loc X.env.scope xj) (hf : X.fn xj = true ∨ X.env.scope.names.lookup xj = some .local)
    (hg : Gl X "max") (hmm : X.mg "max" = none) (hij : i ≠ j) (hmj : m ≠ j)
    (hvi : ∀ p, PE X (.Name x p) (tVar i)) (hvj : ∀ p, PE X (.Name xj p) (tVar j)) (hvm : ∀ p, PE X (.Name xm p) (tVar m))
    {r1 r2 : List Stmt} {f g : S → M Fl} (h1 : PSs X r1 (tS Y E f)) (h2 : PSs X r2 (tS Y E g))
    {k1 k2 k3 k4 k5 k6 : _} {p1 p2 p3 p4 p5 p6 p7 p8 p9 apos cpos p10 p11 p12 p13 p14 p15 q1 q2 q3 apos2 q4 q5 q6 q7 q8 q9 cpos2 q10 q11 q12 : Pos} (hl1 : (apos.endLine == cpos.line) = true) (hl2 : (apos2.endLine == cpos2.line) = true) :
    PS X (.If (.Compare (.Subscript (.Name x p1) (.Constant (.str kL) k1 p2) p3) [.NotEq] [.List [] p4] p5)
      (.Assign [.Name xj p6] (.Call (.Attribute (.Subscript (.Name x p7) (.Constant (.str kL) k2 p8) p9) "pop" apos) [] [] cpos) p10
        :: .If (.Compare (.Name xj p11) [.GtE] [.BinOp (.Constant (.int 10) k3 p12) .Pow (.Constant (.int 18) k4 p13) p14] p15)
          (.Expr (.Call (.Attribute (.Subscript (.Name x q1) (.Constant (.str kL) k5 q2) q3) "append" apos2) [.BinOp (.Name xj q4) .FloorDiv (.Call (.Name "max" q5) [.Constant (.int 2) k6 q6, .Name xm q7] [] q8) q9] [] cpos2) q10 :: r1) [] q11 :: r2) [] q12)
      (tS Y E fun s => (M.ofOpt (isDeck (gt s i))).bind fun _ => (M.ofOpt (intV (gt s m))).bind fun many => (M.ofOpt (if j < s.length then some () else none)).bind fun _ => .any fun full => match decide (full = 0) with
    | true => .ret (.nx s)
    | false => .any fun c => match decide (10 ^ 18 ≤ c) with
      | true => (M.ofOpt (mxOk many)).bind fun _ => (f (s.set j (some (.d (.int c))))).bind fun f => match f with
        | .nx s => g s
        | f => .ret f
      | false => g (s.set j (some (.d (.int c))))) := by
  refine ps_imp (ps_if (pt_deckFull hu (hvi p1)) (pss_cons (ps_set hN hj hxj (pe_bm0 PySem.F.plainAttrs_list PySem.F.slot_list_pop PySem.F.type_list_pop mt_pop (so_deckL (by omega) (hvi p7)) rfl hl1) rfl hf)
    (pss_cons (ps_if (pt_big (hvj p11)) (pss_cons (ps_expr (pe_bm PySem.F.plainAttrs_list PySem.F.slot_list_append PySem.F.type_list_append mt_append (so_deckL (by omega) (hvi q1)) (pa_cons (pe_share hc hg hmm (hvj q4) (hvm q7)) pa_nil) rfl rfl hl2) rfl) h1) pss_nil) h2)) pss_nil) fun D σ H ⟨C, F, dk, s, hY, hE, r, q⟩ => ?_
  obtain ⟨u, e1, q⟩ := M.all_ofOpt ((M.all_bind _).mp q)
  obtain ⟨many, e2, q⟩ := M.all_ofOpt ((M.all_bind _).mp q)
  obtain ⟨u3, e3, q⟩ := M.all_ofOpt ((M.all_bind _).mp q)
  obtain ⟨hjl, _⟩ := ite_some e3
  obtain ⟨a, b, mm, d, ns, ev, hp, ha, hb, hn, hab⟩ := r.deckAt (K.of hY) (isDeck_eq e1)
  obtain ⟨vm, fpm, evm, sm⟩ := r.at (intV_eq e2)
  have evm' : σ[m]? = some (some (.int many)) := by
    cases sm with
    | d hm => cases hm; exact evm
  refine full_rd r ev ha hb fun F1 H1 r1 ha1 hb1 => ?_
  rw [ha] at ha1
  rw [hb] at hb1
  rcases List.eq_nil_or_concat ns with e | ⟨ms, c, e⟩
  · subst e
    exact q 0 F1 H1 dk σ r1
  · rw [List.concat_eq_append] at e
    subst e
    have hq := q 1 c
    dsimp only at hq
    have hne : (!(ms ++ [c]).isEmpty) = true := by cases ms <;> rfl
    rw [hne, if_pos rfl]
    rw [List.length_append, List.length_singleton] at hn
    have hjσ : j < σ.length := by rw [r.len]; exact hjl
    have r2 : Rel C F1 (upd H1 b (.lst (ms.map V.int))) dk σ s := r1.deckSet (K.of hY) hp (by rw [upd_ne hab]; exact ha1) upd_same (by omega) fun z z1 z2 => upd_ne z2
    have r3 := (r2.with_d (.int c)).store j
    have ej : (σ.set j (some (.int c)))[j]? = some (some (.int c)) := by rw [List.getElem?_set_self hjσ]
    have ei : (σ.set j (some (V.int c)))[i]? = some (some (.ref a)) := by rw [get_setNe hij]; exact ev
    have em : (σ.set j (some (V.int c)))[m]? = some (some (.int many)) := by rw [get_setNe hmj]; exact evm'
    have ha2 : upd H1 b (.lst (ms.map V.int)) a = some (deckHO kL kM kD b mm d) := by rw [upd_ne hab]; exact ha1
    refine ⟨.ref a, ev, a, .ref b, rfl, dgL ha1, .inl ⟨rfl, _, SqL.of hb1⟩, b, (ms ++ [c]).map V.int, .int c, rfl, rfl, hb1, by simp, ?_⟩
    have edl : ((ms ++ [c]).map V.int).dropLast = ms.map V.int := by rw [← List.map_dropLast, List.dropLast_concat]
    rw [edl]
    refine big_rd ej ?_
    by_cases hbig : (10 : Int) ^ 18 ≤ c
    · rw [decide_eq_true hbig] at hq ⊢
      rw [if_pos rfl]
      obtain ⟨u4, e4, hq⟩ := M.all_ofOpt ((M.all_bind _).mp hq)
      refine ⟨.ref a, ei, a, .ref b, rfl, dgL ha2, .inl ⟨rfl, _, SqL.of upd_same⟩, share_rd ej em (mxOk_eq e4) ?_⟩
      refine ⟨b, ms.map V.int, .int (c / mx2 many), rfl, rfl, upd_same, by rw [line_eq, List.length_map]; omega, ?_⟩
      have r4 : Rel C F1 (upd (upd H1 b (.lst (ms.map V.int))) b (.lst ((ms ++ [c / mx2 many]).map V.int))) dk _ _ := r3.deckSet (K.of hY) hp (by rw [upd_ne hab]; exact ha2) upd_same (by rw [List.length_append, List.length_singleton]; omega) fun z z1 z2 => upd_ne z2
      rw [List.map_append] at r4
      refine ⟨C, F1, dk, _, hY, hE, r4, ((M.all_bind _).mp hq).mono (fun z hz => ?_) fun _ _ z => z⟩
      match z, hz with
      | .nx s, hz => exact fun F5 H5 d5 σ5 r5 => ⟨C, F5, d5, s, hY, hE, r5, hz⟩
      | .rt v, hz => exact hz
      | .bk s, hz => exact hz
      | .ct s, hz => exact hz
    · rw [decide_eq_false hbig] at hq ⊢
      rw [if_neg Bool.false_ne_true]
      exact ⟨C, F1, dk, _, hY, hE, r3, hq⟩
end
end TP
end

section
set_option linter.all false
set_option maxRecDepth 100000
/-! Which term of the small language stands for which piece of the program. -/
namespace TP
open PySem L2 PySem.Spec PyProof.Rows
/-- own defs by number: their names, their parameters; constants of the module; whether math.comb is there -/
structure Tab where
  nm : Nat → Str
  pr : Nat → List Str
  gl : Str → Option D
  has : Nat → Bool
  comb : Bool
  dL : Str
  dM : Str
  dD : Str
mutual
def eqD : D → D → Bool
  | .none, .none => true
  | .bool a, .bool b => a == b
  | .int a, .int b => decide (a = b)
  | .str a, .str b => decide (a = b)
  | .tuple a, .tuple b => eqDs a b
  | _, _ => false
def eqDs : List D → List D → Bool
  | [], [] => true
  | a :: as, b :: bs => eqD a b && eqDs as bs
  | _, _ => false
end
mutual
theorem eqD_eq : ∀ {a b : D}, eqD a b = true → a = b
  | .none, b, h => by cases b <;> first | rfl | (simp [eqD] at h; done)
  | .bool x, b, h => by cases b <;> first | (simp [eqD] at h; rw [h]; done) | (simp [eqD] at h; done)
  | .int x, b, h => by cases b <;> first | (simp [eqD] at h; rw [h]; done) | (simp [eqD] at h; done)
  | .str x, b, h => by cases b <;> first | (simp [eqD] at h; rw [h]; done) | (simp [eqD] at h; done)
  | .tuple x, b, h => by
    cases b with
    | tuple y =>
      have h' : eqDs x y = true := by simpa [eqD] using h
      rw [eqDs_eq h']
    | _ => simp [eqD] at h
  | .list x, b, h => by cases b <;> (simp [eqD] at h; done)
  | .dict x, b, h => by cases b <;> (simp [eqD] at h; done)
theorem eqDs_eq : ∀ {a b : List D}, eqDs a b = true → a = b
  | [], [], _ => rfl
  | [], _ :: _, h => by simp [eqDs] at h
  | _ :: _, [], h => by simp [eqDs] at h
  | x :: xs, y :: ys, h => by
    have h' : eqD x y = true ∧ eqDs xs ys = true := by simpa [eqDs] using h
    rw [eqD_eq h'.1, eqDs_eq h'.2]
end
def visB (sc : Scope) (x : Str) : Bool := match sc.names.lookup x with
  | some .local => true
  | some .cell => true
  | some .free => true
  | _ => false
def locB (sc : Scope) (x : Str) : Bool := match sc.names.lookup x with
  | some .local => true
  | _ => false
def celB (sc : Scope) (x : Str) : Bool := match sc.names.lookup x with
  | some .cell => true
  | _ => false
theorem celB_eq {sc : Scope} {x : Str} (h : celB sc x = true) : sc.names.lookup x = some .cell := by
  unfold celB at h
  split at h
  · assumption
  · cases h
def glB (sc : Scope) (x : Str) : Bool := match sc.names.lookup x with
  | some .globalImplicit => true
  | _ => false
theorem visB_eq {sc : Scope} {x : Str} (h : visB sc x = true) : Vis sc x := by
  unfold visB at h
  unfold Vis
  split at h
  · rename_i e; exact .inl e
  · rename_i e; exact .inr (.inl e)
  · rename_i e; exact .inr (.inr e)
  · cases h
theorem locB_eq {sc : Scope} {x : Str} (h : locB sc x = true) : sc.names.lookup x = some .local := by
  unfold locB at h
  split at h
  · assumption
  · cases h
theorem glB_eq {sc : Scope} {x : Str} (h : glB sc x = true) : sc.names.lookup x = some .globalImplicit := by
  unfold glB at h
  split at h
  · assumption
  · cases h
/-- a name that stands in a slot -/
def mN (N : List Str) (sc : Scope) (i : Nat) (e : Expr) : Bool := match e with
  | .Name x _ => decide (N[i]? = some x) && visB sc x && !(x == ("__debug__" : Str)) && !(x == ("__classdict__" : Str))
  | _ => false
/-- a name of the module or a built-in, called by x -/
def mGl (sc : Scope) (x : Str) (e : Expr) : Bool := match e with
  | .Name y _ => decide (y = x) && glB sc y && !(y == ("__debug__" : Str)) && !(y == ("__name__" : Str))
  | _ => false
def clsNames : List Ty → List Expr → Bool
  | [], [] => true
  | t :: ts, .Name x _ :: es => decide (x = Str.ofString (tyN t)) && clsNames ts es
  | _, _ => false
def glNames (sc : Scope) : List Expr → Bool
  | [] => true
  | .Name x _ :: es => glB sc x && glNames sc es
  | _ :: _ => false
/-- an index that is no slice -/
def plainIx : Expr → Bool
  | .Slice .. => false
  | _ => true
/-- an expression that is no comprehension -/
def noComp : Expr → Bool
  | .ListComp .. => false
  | .SetComp .. => false
  | .DictComp .. => false
  | _ => true
def noTup : Expr → Bool
  | .Tuple .. => false
  | _ => true
/-- a test by its truth -/
def plainT : Expr → Bool
  | .BoolOp .. => false
  | .UnaryOp .. => false
  | .Compare .. => false
  | .IfExp .. => false
  | _ => true
def notBor : Ex → Bool
  | .bor _ => false
  | _ => true
theorem notBor_eq {e : Ex} (h : notBor e = true) : isBor e = none := by cases e <;> first | rfl | cases h
theorem bor_or (e : Ex) : (∃ i, e = .bor i) ∨ isBor e = none := by cases e <;> first | exact .inl ⟨_, rfl⟩ | exact .inr rfl
def ownN (N : List Str) (own : List Nat) : List (Str × Nat) := own.filterMap fun i => (N[i]?).map (·, i)
mutual
def mT (N : List Str) (sc : Scope) (fb : Str → Bool) : Tg → Expr → Bool
  | .nm i, .Name x _ => decide (N[i]? = some x) && (locB sc x || (celB sc x && fb x))
  | .tp ts, .Tuple es _ _ => mTs N sc fb ts es && decide (es.length = ts.len) && es.all plainE
  | _, _ => false
def mTs (N : List Str) (sc : Scope) (fb : Str → Bool) : Tgs → List Expr → Bool
  | .nil, [] => true
  | .cons t ts, e :: es => mT N sc fb t e && plainE e && mTs N sc fb ts es
  | _, _ => false
end
def biNames : List Str := ["abs", "max", "min", "int", "len", "list", "tuple", "sum", "all", "any", "repr", "str", "sorted", "range", "zip", "enumerate", "isinstance", "bool", "dict"]
mutual
def mE (T : Tab) (N : List Str) (sc : Scope) : Ex → Expr → Bool
  | .var i, e => mN N sc i e
  | .bor i, e => mN N sc i e
  | .int i, .Constant (.int j) _ _ => decide (i = j)
  | .str x, .Constant (.str y) _ _ => decide (x = y)
  | .bl b, .Constant (.bool c) _ _ => b == c
  | .non, .Constant .none _ _ => true
  | .glob x v, e => mGl sc x e && (match T.gl x with | some d => eqD d v | none => false)
  | .bin o a b, .BinOp a' o' b' _ => decide (opOf o = o') && mE T N sc a a' && mE T N sc b b'
  | .neg a, .UnaryOp .USub a' _ => mE T N sc a a'
  | .not a, .UnaryOp .Not a' _ => mE T N sc a a'
  | .and a b, .BoolOp .And (x :: y :: r) p => notBor a && notBor b && mE T N sc a x && (match r with | [] => mE T N sc b y | z :: r => mE T N sc b (.BoolOp .And (y :: z :: r) p))
  | .or a b, .BoolOp .Or (x :: y :: r) p => notBor a && notBor b && mE T N sc a x && (match r with | [] => mE T N sc b y | z :: r => mE T N sc b (.BoolOp .Or (y :: z :: r) p))
  | .cmp o a b, .Compare a' [o'] [b'] _ => decide (cmOf o = o') && mE T N sc a a' && mE T N sc b b' && !behindInMarks o' b'
  | .chain o u a b c, .Compare a' [o', u'] [b', c'] _ => decide (cmOf o = o') && decide (cmOf u = u') && mE T N sc a a' && mE T N sc b b' && mE T N sc c c' && !lastMarks [o', u'] [b', c']
  | .ife c a b, .IfExp c' a' b' _ => notBor a && notBor b && mE T N sc c c' && mE T N sc a a' && mE T N sc b b'
  | .tup es, .Tuple es' _ _ => mEs T N sc es es' && decide (es'.length ≤ 1000)
  | .lst es, .List es' _ => mEs T N sc es es' && decide (es'.length ≤ 1000)
  | .idx a b, .Subscript a' b' _ => mE T N sc a a' && mE T N sc b b' && plainIx b'
  | .slc a lo hi, .Subscript a' (.Slice lo' hi' none _) _ => mE T N sc a a' && mO T N sc lo lo' && mO T N sc hi hi'
  | .rev a, .Subscript a' (.Slice none none (some (.UnaryOp .USub (.Constant (.int j) _ _) _)) _) _ => decide (j = 1) && mE T N sc a a'
  | .call f es, .Call g es' [] _ => mGl sc (T.nm f) g && T.has f && mEs T N sc es es' && orderOk (T.pr f) es'.length [] (List.range es'.length)
  | .callK f es kes ids, .Call g es' kws _ => mGl sc (T.nm f) g && T.has f && mEs T N sc es es' && mKs T N sc kes kws && (match kwNames kws with | some ks => orderOk (T.pr f) es'.length ks ids && decide (ks.length = kws.length) | none => false)
  | .bi b es, .Call g es' [] _ => (match b with
    | .listZip => (match es' with
      | [.Call h es2 [] _] => mGl sc "list" g && mGl sc "zip" h && mEs T N sc es es2 && decide (es2.length = 2)
      | _ => false)
    | .comb => T.comb && mGl sc "comb" g && mEs T N sc es es' && !es'.isEmpty
    | b => biOk b && mGl sc (biN b) g && mEs T N sc es es' && !es'.isEmpty)
  | .isin a ts, .Call g [a', t'] [] _ => mGl sc "isinstance" g && mE T N sc a a' && plainE a' && (match t' with
    | .Tuple es _ _ => clsNames ts es && glNames sc es && decide (es.length ≤ 1000)
    | t => clsNames ts [t] && glNames sc [t])
  | .pop i, .Call (.Attribute o m apos) [] [] cpos => mN N sc i o && decide (m = Str.ofString "pop") && (apos.endLine == cpos.line)
  | .popAt i e, .Call (.Attribute o m apos) [e'] [] cpos => mN N sc i o && decide (m = Str.ofString "pop") && (apos.endLine == cpos.line) && mE T N sc e e' && plainE e'
  | .dict0, .Dict [] [] _ => true
  | .deckGet i w, .Subscript o (.Constant (.str y) _ _) _ => mN N sc i o && decide (y = if w then T.dD else T.dM)
  | .deckNew e mi d, .Dict [some (.Constant (.str a) _ _), some (.Constant (.str b) _ _), some (.Constant (.str c) _ _)] [e', o, .Constant (.int d') _ _] _ => decide (a = T.dL) && decide (b = T.dM) && decide (c = T.dD) && decide (d = d') && mE T N sc e e' && mN N sc mi o
  | .scrCut i n, .Subscript o (.Slice none (some (.Constant (.int k) _ _)) none _) _ => mN N sc i o && decide (k = (n : Int))
  | .comp e t it cs own, .ListComp e' [⟨t', it', ifs', a⟩] scope _ => decide (a = 0) && blkC N sc scope (ownN N own) && decide ((ownN N own).map (·.2) = own) && decide (∀ i ∈ tgN t, i ∈ own) && mI T N sc it t' it' && mT N (relS scope sc) (celB scope) t t' &&
      mC T N (relS scope sc) cs ifs' && mE T N (relS scope sc) e e'
  | _, _ => false
def mEs (T : Tab) (N : List Str) (sc : Scope) : Exs → List Expr → Bool
  | .nil, [] => true
  | .cons e es, e' :: es' => mE T N sc e e' && plainE e' && mEs T N sc es es'
  | _, _ => false
def mKs (T : Tab) (N : List Str) (sc : Scope) : Exs → List Keyword → Bool
  | .nil, [] => true
  | .cons e es, ⟨_, e', _⟩ :: es' => mE T N sc e e' && mKs T N sc es es'
  | _, _ => false
def mO (T : Tab) (N : List Str) (sc : Scope) : Exs → Option Expr → Bool
  | .nil, none => true
  | .cons e _, some e' => mE T N sc e e'
  | _, _ => false
def mC (T : Tab) (N : List Str) (sc : Scope) : Exs → List Expr → Bool
  | .nil, [] => true
  | .cons e _, [e'] => mE T N sc e e'
  | _, _ => false
def mI (T : Tab) (N : List Str) (sc : Scope) : It → Expr → Expr → Bool
  | .seq e, _, e' => mE T N sc e e' && (match e' with | .Set .. => false | _ => true)
  | .rng1 a, _, .Call g [a'] [] _ => mGl sc "range" g && mE T N sc a a' && plainE a'
  | .rng2 a b, _, .Call g [a', b'] [] _ => mGl sc "range" g && mE T N sc a a' && plainE a' && mE T N sc b b' && plainE b'
  | .rng3 a b c, _, .Call g [a', b', c'] [] _ => mGl sc "range" g && mE T N sc a a' && plainE a' && mE T N sc b b' && plainE b' && mE T N sc c c' && plainE c'
  | .zip a b, .Tuple .., .Call g [a', b'] [] _ => mGl sc "zip" g && mE T N sc a a' && plainE a' && mE T N sc b b' && plainE b'
  | .enum a, .Tuple .., .Call g [a'] [] _ => mGl sc "enumerate" g && mE T N sc a a' && plainE a'
  | _, _, _ => false
end
end TP
end

section
set_option linter.all false
set_option maxRecDepth 100000
/-! The terms tell what the pieces do: expressions. -/
namespace TP
open PySem L2 PySem.Spec PyProof.Rows
/-! ### lengths -/
section
variable {G : Nat → List Vl → M Vl}
theorem evD_len : ∀ (es : Exs) (s : S) (P : List D × S → Prop) (R : Nat → D → Prop), (evD G es s).All P R → (evD G es s).All (fun r => P r ∧ r.1.length = es.len) R
  | .nil, s, P, R, h => ⟨h, rfl⟩
  | .cons e es, s, P, R, h => by
    refine (M.all_bind (fz (ev G e s))).mpr (((M.all_bind (fz (ev G e s))).mp h).mono (fun r hr => ?_) fun _ _ z => z)
    refine (M.all_bind (evD G es r.2)).mpr ((evD_len es r.2 _ _ ((M.all_bind (evD G es r.2)).mp hr)).mono (fun q hq => ?_) fun _ _ z => z)
    exact ⟨hq.1, congrArg Nat.succ hq.2⟩
theorem evO_len : ∀ (es : Exs) (s : S) (P : List Opr × S → Prop) (R : Nat → D → Prop), (evO G es s).All P R → (evO G es s).All (fun r => P r ∧ r.1.length = es.len) R
  | .nil, s, P, R, h => ⟨h, rfl⟩
  | .cons e es, s, P, R, h => by
    refine (M.all_bind (oper (isBor e) (ev G e) s)).mpr (((M.all_bind (oper (isBor e) (ev G e) s)).mp h).mono (fun r hr => ?_) fun _ _ z => z)
    refine (M.all_bind (evO G es r.2)).mpr ((evO_len es r.2 _ _ ((M.all_bind (evO G es r.2)).mp hr)).mono (fun q hq => ?_) fun _ _ z => z)
    exact ⟨hq.1, congrArg Nat.succ hq.2⟩
theorem evV_len : ∀ (es : Exs) (s : S) (P : List Vl × S → Prop) (R : Nat → D → Prop), (evV G es s).All P R → (evV G es s).All (fun r => P r ∧ r.1.length = es.len) R
  | .nil, s, P, R, h => ⟨h, rfl⟩
  | .cons e es, s, P, R, h => by
    refine (M.all_bind (ev G e s)).mpr (((M.all_bind (ev G e s)).mp h).mono (fun r hr => ?_) fun _ _ z => z)
    refine (M.all_bind (evV G es r.2)).mpr ((evV_len es r.2 _ _ ((M.all_bind (evV G es r.2)).mp hr)).mono (fun q hq => ?_) fun _ _ z => z)
    exact ⟨hq.1, congrArg Nat.succ hq.2⟩
theorem evW_len : ∀ (es : Exs) (s : S) (P : List Vl × S → Prop) (R : Nat → D → Prop), (evW G es s).All P R → (evW G es s).All (fun r => P r ∧ r.1.length = es.len) R
  | .nil, s, P, R, h => ⟨h, rfl⟩
  | .cons e es, s, P, R, h => by
    refine (M.all_bind (ev G e s)).mpr (((M.all_bind (ev G e s)).mp h).mono (fun r hr => ?_) fun _ _ z => z)
    refine (M.all_bind (evW G es r.2)).mpr ((evW_len es r.2 _ _ ((M.all_bind (evW G es r.2)).mp hr)).mono (fun q hq => ?_) fun _ _ z => z)
    exact ⟨hq.1, congrArg Nat.succ hq.2⟩
end
theorem mEs_len {T : Tab} {N : List Str} {sc : Scope} : ∀ {es : Exs} {es' : List Expr}, mEs T N sc es es' = true → es'.length = es.len ∧ es'.all plainE = true
  | .nil, [], _ => ⟨rfl, rfl⟩
  | .nil, _ :: _, h => by simp [mEs] at h
  | .cons _ _, [], h => by simp [mEs] at h
  | .cons e es, e' :: es', h => by
    simp only [mEs, Bool.and_eq_true] at h
    obtain ⟨i1, i2⟩ := mEs_len h.2
    exact ⟨congrArg Nat.succ i1, by rw [List.all_cons, h.1.2, i2]; rfl⟩
theorem mKs_len {T : Tab} {N : List Str} {sc : Scope} : ∀ {es : Exs} {es' : List Keyword}, mKs T N sc es es' = true → es'.length = es.len
  | .nil, [], _ => rfl
  | .nil, _ :: _, h => by simp [mKs] at h
  | .cons _ _, [], h => by simp [mKs] at h
  | .cons e es, ⟨_, e', _⟩ :: es', h => by
    simp only [mKs, Bool.and_eq_true] at h
    exact congrArg Nat.succ (mKs_len h.2)
theorem order_range {α : Type} : ∀ (l : List α), order (List.range l.length) l = l
  | [] => rfl
  | a :: l => by
    have ih := order_range l
    unfold order at ih ⊢
    rw [List.length_cons, List.range_succ_eq_map, List.filterMap_cons, List.filterMap_map]
    exact congrArg (a :: ·) ih
/-! ### what is known of a context -/
structure Gd (Y : Fx) (E : XK) (T : Tab) (CX : CXT) (k : Nat) (G : Nat → List Vl → M Vl) (N : List Str) (sc : Scope) (X : Cx) : Prop where
  hK : X.K = Y.K
  hN : X.N = N
  nd : N.Nodup
  hsc : X.env.scope = sc
  calm : X.calm = true
  gd : X.A.guards = some []
  rm : Room k X.A
  mgb : ∀ x ∈ biNames, X.mg x = none
  comb : T.comb = true → X.mg "comb" = some (.builtin "math.comb")
  keys : DkY Y T.dL T.dM T.dD
  gl : ∀ x d, T.gl x = some d → ∃ v u, X.mg x = some u ∧ RelV v u ∧ ∀ F, Dv X.K F v d
  fn : ∀ f, T.has f = true → ∃ fa fd, X.mg (T.nm f) = some (.ref fa) ∧ PySem.W.keepIn X.K (.ref fa) = true ∧ PlainFd fd (T.pr f) ∧ FnG X.prog X.w X.K X.mg X.base CX k fa fd (T.pr f) (spOf Y (T.pr f).length (G f))
  ps : Passes CX X E
section
variable {Y : Fx} {T : Tab} {CX : CXT} {k : Nat} {G : Nat → List Vl → M Vl}
/-- the block of a comprehension -/
theorem Gd.blk {E : XK} {N : List Str} {sc : Scope} {X : Cx} (g : Gd Y E T CX k G N sc X) (hCX : ∀ (l : List Env) (H : Hp) (s : Shared) (e : Value) (s' : Shared), CX l H s (fun _ _ _ => False) e s' → False) (s : Shared) (H : Hp) (scope : Scope) (C : Addr) (cl : List (Str × Addr)) (fp : List Addr) :
    Gd Y (fun _ _ _ => False) T CX k G N (relS scope sc) (X.blk s H scope (compEnvC scope cl C X.env) fp) where
  hK := g.hK
  hN := g.hN
  nd := g.nd
  hsc := by
    show relS scope X.env.scope = _
    rw [g.hsc]
  calm := g.calm
  gd := g.gd
  rm := g.rm
  mgb := g.mgb
  comb := g.comb
  keys := g.keys
  gl := g.gl
  fn := g.fn
  ps := fun pins σ H s e s' I c => (hCX _ _ _ _ _ c).elim
variable {E : XK} {N : List Str} {sc : Scope} {X : Cx}
theorem Gd.units (g : Gd Y E T CX k G N sc X) : X.A.units + 64 < cLine := g.rm.units
theorem Gd.units2 (g : Gd Y E T CX k G N sc X) : X.A.units + 200 < cLine := by have := g.rm.un; omega
theorem Gd.var (g : Gd Y E T CX k G N sc X) {i : Nat} {e : Expr} (h : mN N sc i e = true) : ∃ x p, e = .Name x p ∧ PE X e (tVar i) := by
  cases e with
  | Name x p =>
    simp only [mN, Bool.and_eq_true, decide_eq_true_eq, Bool.not_eq_true'] at h
    obtain ⟨⟨⟨h1, h2⟩, h3⟩, h4⟩ := h
    exact ⟨x, p, rfl, pe_var (by rw [g.hN]; exact h1) (by rw [g.hsc]; exact visB_eq h2) h3 h4⟩
  | _ => cases h
theorem mGl_eq {x : Str} {e : Expr} (h : mGl sc x e = true) : ∃ p, e = .Name x p ∧ sc.names.lookup x = some .globalImplicit ∧ (x == ("__debug__" : Str)) = false ∧ x ≠ "__name__" := by
  cases e with
  | Name y p =>
    simp only [mGl, Bool.and_eq_true, decide_eq_true_eq, Bool.not_eq_true'] at h
    obtain ⟨⟨⟨h1, h2⟩, h3⟩, h4⟩ := h
    subst h1
    exact ⟨p, rfl, glB_eq h2, h3, by simpa using h4⟩
  | _ => cases h
theorem Gd.glob (g : Gd Y E T CX k G N sc X) {x : Str} (h : sc.names.lookup x = some .globalImplicit) : Gl X x := by
  show X.env.scope.names.lookup x = _
  rw [g.hsc]
  exact h
theorem bi_boot (b : Bi) (h : b ≠ .comb) : bootBuiltins (biN b) = some (biV b) := by cases b <;> first | exact absurd rfl h | (simp only [biN, biV]; decide +kernel)
theorem bi_name (b : Bi) (h : b ≠ .comb) : biN b ∈ biNames := by cases b <;> first | exact absurd rfl h | (simp only [biN, biNames]; decide +kernel)
theorem ty_boot (t : Ty) : bootBuiltins (Str.ofString (tyN t)) = some (.type (tyN t)) := by cases t <;> (simp only [tyN]; decide +kernel)
theorem ty_name (t : Ty) : Str.ofString (tyN t) ∈ biNames := by cases t <;> (simp only [tyN, biNames]; decide +kernel)
theorem ty_ok (t : Ty) : Str.ofString (tyN t) ≠ "__name__" ∧ (Str.ofString (tyN t) == ("__debug__" : Str)) = false := by cases t <;> (simp only [tyN]; decide +kernel)
theorem Gd.ty (g : Gd Y E T CX k G N sc X) {t : Ty} {x : Str} {p : Pos} (hx : x = Str.ofString (tyN t)) (hg : glB sc x = true) : PE X (.Name x p) (tC (.ty (tyN t))) := by
  subst hx
  exact pe_bltn (g.glob (glB_eq hg)) (g.mgb _ (ty_name t)) (ty_boot t) rfl (ty_ok t).1 (ty_ok t).2
/-- the classes of isinstance, in a tuple -/
def tyArgs : List Ty → TA
  | [] => tNil
  | t :: ts => tCons (tC (.ty (tyN t))) (tyArgs ts)
theorem Gd.tys (g : Gd Y E T CX k G N sc X) : ∀ (ts : List Ty) (es : List Expr), clsNames ts es = true → glNames sc es = true → PA X es (tyArgs ts) ∧ es.length = ts.length
  | [], [], _, _ => ⟨pa_nil, rfl⟩
  | t :: ts, .Name x p :: es, h1, h2 => by
    simp only [clsNames, glNames, Bool.and_eq_true, decide_eq_true_eq] at h1 h2
    obtain ⟨i1, i2⟩ := g.tys ts es h1.2 h2.2
    exact ⟨pa_cons (g.ty h1.1 h2.1) i1 (star_cons rfl), congrArg Nat.succ i2⟩
  | [], _ :: _, h1, _ => by simp [clsNames] at h1
  | _ :: _, [], h1, _ => by simp [clsNames] at h1
theorem tyArgs_rd : ∀ (ts : List Ty) (σ : LS) (H : Hp) (Q : List V → Hp → Prop), Q (ts.map fun t => .ty (tyN t)) H → tyArgs ts σ H Q
  | [], σ, H, Q, h => h
  | t :: ts, σ, H, Q, h => tyArgs_rd ts σ H _ h
end
end TP
end

section
set_option linter.all false
set_option maxRecDepth 100000
set_option maxHeartbeats 2000000
/-! Soundness of the matching: expressions. -/
namespace TP
open PySem L2 PySem.Spec PyProof.Rows
section
variable {Y : Fx} {T : Tab} {CX : CXT} {k : Nat} {G : Nat → List Vl → M Vl} (hCX : ∀ (l : List Env) (H : Hp) (s : Shared) (e : Value) (s' : Shared), CX l H s (fun _ _ _ => False) e s' → False)
/-- what is claimed of a term -/
def SE (Y : Fx) (T : Tab) (CX : CXT) (k : Nat) (G : Nat → List Vl → M Vl) (e : Ex) : Prop := ∀ {E : XK} {N : List Str} {sc : Scope} {X : Cx} {e' : Expr}, Gd Y E T CX k G N sc X → mE T N sc e e' = true → PE X e' (tV Y E (ev G e))
def ST (Y : Fx) (T : Tab) (CX : CXT) (k : Nat) (G : Nat → List Vl → M Vl) (e : Ex) : Prop := ∀ {E : XK} {N : List Str} {sc : Scope} {X : Cx} {e' : Expr}, Gd Y E T CX k G N sc X → mE T N sc e e' = true → PT X e' (tBo Y E fun s => tst (oper (isBor e) (ev G e) s))
def SW (Y : Fx) (T : Tab) (CX : CXT) (k : Nat) (G : Nat → List Vl → M Vl) (e : Ex) : Prop := ∀ {E : XK} {N : List Str} {sc : Scope} {X : Cx} {op : BoolOp} {l : List Expr} {p : Pos}, Gd Y E T CX k G N sc X → mE T N sc e (.BoolOp op l p) = true → PW X (.BoolOp op l p) (tBo Y E fun s => tst (oper (isBor e) (ev G e) s))
theorem SE.op {e : Ex} (h : SE Y T CX k G e) {E : XK} {N : List Str} {sc : Scope} {X : Cx} {e' : Expr} (g : Gd Y E T CX k G N sc X) (m : mE T N sc e e' = true) : PE X e' (tO Y E (oper (isBor e) (ev G e))) := by
  rcases bor_or e with ⟨i, rfl⟩ | hb
  · obtain ⟨x, p, rfl, hv⟩ := g.var (show mN N sc i e' = true by simpa only [mE] using m)
    exact so_bor hv
  · rw [hb]
    exact so_oper (h g m)
/-- the plain tests -/
theorem SE.plain {e : Ex} (h : SE Y T CX k G e) {E : XK} {N : List Str} {sc : Scope} {X : Cx} {e' : Expr} (g : Gd Y E T CX k G N sc X) (m : mE T N sc e e' = true) (he : ∀ whole, isTrue e' X.env whole = (do let v ← whole; standAt e'.pos; holding [v] (truthy v))) :
    PT X e' (tBo Y E fun s => tst (oper (isBor e) (ev G e) s)) := so_tst g.hK (h.op g m) he
theorem isTrue_plain_of {e' : Expr} {env : Env} (h : plainT e' = true) : ∀ whole, isTrue e' env whole = (do let v ← whole; standAt e'.pos; holding [v] (truthy v)) := by
  intro whole
  cases e' <;> first | rfl | cases h
theorem pt_congr {X : Cx} {E : XK} {e : Expr} {f g : S → M (Bool × S)} (h : PT X e (tBo Y E f)) (hfg : ∀ s, f s = g s) : PT X e (tBo Y E g) := by rw [← show f = g from funext hfg]; exact h
theorem pw_congr {X : Cx} {E : XK} {e : Expr} {f g : S → M (Bool × S)} (h : PW X e (tBo Y E f)) (hfg : ∀ s, f s = g s) : PW X e (tBo Y E g) := by rw [← show f = g from funext hfg]; exact h
/-! ### constructor by constructor -/
theorem c_var {i : Nat} : SE Y T CX k G (.var i) := fun g m => by
  obtain ⟨x, p, rfl, hv⟩ := g.var (by simpa only [mE] using m)
  exact so_var hv
theorem c_bor {i : Nat} : SE Y T CX k G (.bor i) := fun g m => by
  obtain ⟨x, p, rfl, hv⟩ := g.var (by simpa only [mE] using m)
  exact so_var hv
theorem c_int {i : Int} : SE Y T CX k G (.int i) := @fun E N sc X e' g m => by
  cases e' with
  | Constant c j p =>
    cases c with
    | int n =>
      have e : i = n := by simpa [mE] using m
      subst e
      exact so_const pe_int fun _ _ => .int _
    | _ => cases m
  | _ => cases m
theorem c_str {x : Str} : SE Y T CX k G (.str x) := @fun E N sc X e' g m => by
  cases e' with
  | Constant c j p =>
    cases c with
    | str n =>
      have e : x = n := by simpa [mE] using m
      subst e
      exact so_const pe_str fun _ _ => .str _
    | _ => cases m
  | _ => cases m
theorem c_bl {b : Bool} : SE Y T CX k G (.bl b) := @fun E N sc X e' g m => by
  cases e' with
  | Constant c j p =>
    cases c with
    | bool n =>
      have e : b = n := by simpa [mE] using m
      subst e
      exact so_const pe_bl fun _ _ => .bl _
    | _ => cases m
  | _ => cases m
theorem c_non : SE Y T CX k G .non := @fun E N sc X e' g m => by
  cases e' with
  | Constant c j p =>
    cases c with
    | none => exact so_const pe_non fun _ _ => .non
    | _ => cases m
  | _ => cases m
theorem c_glob {x : Str} {v : D} : SE Y T CX k G (.glob x v) := @fun E N sc X e' g m => by
  simp only [mE, Bool.and_eq_true] at m
  obtain ⟨m1, m2⟩ := m
  obtain ⟨p, rfl, h1, h2, h3⟩ := mGl_eq m1
  cases hd : T.gl x with
  | none => rw [hd] at m2; cases m2
  | some d =>
    rw [hd] at m2
    have ed := eqD_eq m2
    subst ed
    obtain ⟨w, u, e1, e2, e3⟩ := g.gl x d hd
    refine pe_imp (pe_glob (g.glob h1) e1 e2 h2) fun σ H Q ⟨C, F, dk, s, hY, hE, r, q⟩ => q F H dk w (r.with_d ?_)
    rw [fK hY g.hK]
    exact e3 F
theorem c_bin {o : Op} {a b : Ex} (ha : SE Y T CX k G a) (hb : SE Y T CX k G b) : SE Y T CX k G (.bin o a b) := @fun E N sc X e' g m => by
  cases e' with
  | BinOp a' o' b' p =>
    simp only [mE, Bool.and_eq_true, decide_eq_true_eq] at m
    obtain ⟨⟨m1, m2⟩, m3⟩ := m
    subst m1
    exact so_bin g.hK (ha.op g m2) (hb.op g m3)
  | _ => cases m
theorem c_neg {a : Ex} (ha : SE Y T CX k G a) : SE Y T CX k G (.neg a) := @fun E N sc X e' g m => by
  cases e' with
  | UnaryOp o' a' p =>
    cases o' with
    | USub => exact so_neg (ha.op g (by simpa only [mE] using m))
    | _ => cases m
  | _ => cases m
theorem c_not {a : Ex} (ha : SE Y T CX k G a) : SE Y T CX k G (.not a) := @fun E N sc X e' g m => by
  cases e' with
  | UnaryOp o' a' p =>
    cases o' with
    | Not => exact so_notV g.hK (ha.op g (by simpa only [mE] using m))
    | _ => cases m
  | _ => cases m
theorem v_and {N : List Str} {sc : Scope} {a b : Ex} {e' : Expr} (m : mE T N sc (.and a b) e' = true) : ∃ x y r p, e' = .BoolOp .And (x :: y :: r) p ∧ isBor a = none ∧ isBor b = none ∧ mE T N sc a x = true ∧ ((r = [] ∧ mE T N sc b y = true) ∨ mE T N sc b (.BoolOp .And (y :: r) p) = true) := by
  cases e' with
  | BoolOp op l p =>
    cases op with
    | Or => cases m
    | And =>
      match l, m with
      | [], m => cases m
      | [_], m => cases m
      | x :: y :: r, m =>
        simp only [mE, Bool.and_eq_true] at m
        obtain ⟨⟨⟨m1, m2⟩, m3⟩, m4⟩ := m
        refine ⟨x, y, r, p, rfl, notBor_eq m1, notBor_eq m2, m3, ?_⟩
        cases r with
        | nil => exact .inl ⟨rfl, m4⟩
        | cons z r => exact .inr m4
  | _ => cases m
theorem v_or {N : List Str} {sc : Scope} {a b : Ex} {e' : Expr} (m : mE T N sc (.or a b) e' = true) : ∃ x y r p, e' = .BoolOp .Or (x :: y :: r) p ∧ isBor a = none ∧ isBor b = none ∧ mE T N sc a x = true ∧ ((r = [] ∧ mE T N sc b y = true) ∨ mE T N sc b (.BoolOp .Or (y :: r) p) = true) := by
  cases e' with
  | BoolOp op l p =>
    cases op with
    | And => cases m
    | Or =>
      match l, m with
      | [], m => cases m
      | [_], m => cases m
      | x :: y :: r, m =>
        simp only [mE, Bool.and_eq_true] at m
        obtain ⟨⟨⟨m1, m2⟩, m3⟩, m4⟩ := m
        refine ⟨x, y, r, p, rfl, notBor_eq m1, notBor_eq m2, m3, ?_⟩
        cases r with
        | nil => exact .inl ⟨rfl, m4⟩
        | cons z r => exact .inr m4
  | _ => cases m
theorem c_and {a b : Ex} (ha : SE Y T CX k G a) (hb : SE Y T CX k G b) : SE Y T CX k G (.and a b) := @fun E N sc X e' g m => by
  obtain ⟨x, y, r, p, rfl, _, _, m1, m2⟩ := v_and m
  refine so_and g.hK (ha g m1) ?_
  rcases m2 with ⟨rfl, m2⟩ | m2
  · exact pe_one (hb g m2)
  · exact hb g m2
theorem c_or {a b : Ex} (ha : SE Y T CX k G a) (hb : SE Y T CX k G b) : SE Y T CX k G (.or a b) := @fun E N sc X e' g m => by
  obtain ⟨x, y, r, p, rfl, _, _, m1, m2⟩ := v_or m
  refine so_or g.hK (ha g m1) ?_
  rcases m2 with ⟨rfl, m2⟩ | m2
  · exact pe_one (hb g m2)
  · exact hb g m2
theorem w_and {a b : Ex} (ha : ST Y T CX k G a) (hb : ST Y T CX k G b) (hw : SW Y T CX k G b) : SW Y T CX k G (.and a b) := @fun E N sc X op l p0 g m => by
  obtain ⟨x, y, r, p, e, ea, eb, m1, m2⟩ := v_and m
  cases e
  have h1 := ha g m1
  rw [ea] at h1
  have h2 : PW X (.BoolOp .And (y :: r) p0) (tBo Y E fun s => tst (oper none (ev G b) s)) := by
    rcases m2 with ⟨rfl, m2⟩ | m2
    · have := hb g m2
      rw [eb] at this
      exact pw_and1 this
    · have := hw g m2
      rw [eb] at this
      exact this
  exact pw_congr (so_andT h1 h2) fun s => tst_and.symm
theorem w_or {a b : Ex} (ha : ST Y T CX k G a) (hb : ST Y T CX k G b) (hw : SW Y T CX k G b) : SW Y T CX k G (.or a b) := @fun E N sc X op l p0 g m => by
  obtain ⟨x, y, r, p, e, ea, eb, m1, m2⟩ := v_or m
  cases e
  have h1 := ha g m1
  rw [ea] at h1
  have h2 : PW X (.BoolOp .Or (y :: r) p0) (tBo Y E fun s => tst (oper none (ev G b) s)) := by
    rcases m2 with ⟨rfl, m2⟩ | m2
    · have := hb g m2
      rw [eb] at this
      exact pw_or1 this
    · have := hw g m2
      rw [eb] at this
      exact this
  exact pw_congr (so_orT h1 h2) fun s => tst_or.symm
theorem t_and {a b : Ex} (h : SW Y T CX k G (.and a b)) : ST Y T CX k G (.and a b) := @fun E N sc X e' g m => by
  obtain ⟨x, y, r, p, rfl, _⟩ := v_and m
  exact (h g m).pt
theorem t_or {a b : Ex} (h : SW Y T CX k G (.or a b)) : ST Y T CX k G (.or a b) := @fun E N sc X e' g m => by
  obtain ⟨x, y, r, p, rfl, _⟩ := v_or m
  exact (h g m).pt
theorem t_not {a : Ex} (ha : ST Y T CX k G a) : ST Y T CX k G (.not a) := @fun E N sc X e' g m => by
  cases e' with
  | UnaryOp o' a' p =>
    cases o' with
    | Not => exact pt_congr (so_notT (ha g (by simpa only [mE] using m))) fun s => (tst_not (f := fun s => tst (oper (isBor a) (ev G a) s))).symm
    | _ => cases m
  | _ => cases m
theorem v_cmp {N : List Str} {sc : Scope} {o : Cm} {a b : Ex} {e' : Expr} (m : mE T N sc (.cmp o a b) e' = true) : ∃ a' b' p, e' = .Compare a' [cmOf o] [b'] p ∧ mE T N sc a a' = true ∧ mE T N sc b b' = true ∧ behindInMarks (cmOf o) b' = false := by
  cases e' with
  | Compare a' os cs p =>
    match os, cs, m with
    | [o'], [b'], m =>
      simp only [mE, Bool.and_eq_true, decide_eq_true_eq, Bool.not_eq_true'] at m
      obtain ⟨⟨⟨m1, m2⟩, m3⟩, m4⟩ := m
      subst m1
      exact ⟨a', b', p, rfl, m2, m3, m4⟩
    | [], _, m => cases m
    | [_], [], m => cases m
    | [_], _ :: _ :: _, m => cases m
    | _ :: _ :: _, _, m => cases m
  | _ => cases m
theorem c_cmp {o : Cm} {a b : Ex} (ha : SE Y T CX k G a) (hb : SE Y T CX k G b) : SE Y T CX k G (.cmp o a b) := @fun E N sc X e' g m => by
  obtain ⟨a', b', p, rfl, m1, m2, m3⟩ := v_cmp m
  exact so_cmp g.hK g.units (ha.op g m1) (hb.op g m2) m3
theorem t_cmp {o : Cm} {a b : Ex} (ha : SE Y T CX k G a) (hb : SE Y T CX k G b) : ST Y T CX k G (.cmp o a b) := @fun E N sc X e' g m => by
  obtain ⟨a', b', p, rfl, m1, m2, m3⟩ := v_cmp m
  exact pt_congr (so_cmpT g.hK g.units (ha.op g m1) (hb.op g m2) m3) fun s => tst_cmp.symm
theorem v_chain {N : List Str} {sc : Scope} {o u : Cm} {a b c : Ex} {e' : Expr} (m : mE T N sc (.chain o u a b c) e' = true) : ∃ a' b' c' p, e' = .Compare a' [cmOf o, cmOf u] [b', c'] p ∧ mE T N sc a a' = true ∧ mE T N sc b b' = true ∧ mE T N sc c c' = true ∧ lastMarks [cmOf o, cmOf u] [b', c'] = false := by
  cases e' with
  | Compare a' os cs p =>
    match os, cs, m with
    | [o', u'], [b', c'], m =>
      simp only [mE, Bool.and_eq_true, decide_eq_true_eq, Bool.not_eq_true'] at m
      obtain ⟨⟨⟨⟨⟨m1, m2⟩, m3⟩, m4⟩, m5⟩, m6⟩ := m
      subst m1 m2
      exact ⟨a', b', c', p, rfl, m3, m4, m5, m6⟩
    | [], _, m => cases m
    | [_], _, m => cases m
    | [_, _], [], m => cases m
    | [_, _], [_], m => cases m
    | [_, _], _ :: _ :: _ :: _, m => cases m
    | _ :: _ :: _ :: _, _, m => cases m
  | _ => cases m
theorem c_chain {o u : Cm} {a b c : Ex} (ha : SE Y T CX k G a) (hb : SE Y T CX k G b) (hc : SE Y T CX k G c) : SE Y T CX k G (.chain o u a b c) := @fun E N sc X e' g m => by
  obtain ⟨a', b', c', p, rfl, m1, m2, m3, m4⟩ := v_chain m
  exact so_chain g.hK g.units (ha.op g m1) (hb.op g m2) (hc.op g m3) m4
theorem t_chain {o u : Cm} {a b c : Ex} (ha : SE Y T CX k G a) (hb : SE Y T CX k G b) (hc : SE Y T CX k G c) : ST Y T CX k G (.chain o u a b c) := @fun E N sc X e' g m => by
  obtain ⟨a', b', c', p, rfl, m1, m2, m3, m4⟩ := v_chain m
  exact pt_congr (so_chainT g.hK g.units (ha.op g m1) (hb.op g m2) (hc.op g m3) m4) fun s => tst_chain.symm
theorem v_ife {N : List Str} {sc : Scope} {c a b : Ex} {e' : Expr} (m : mE T N sc (.ife c a b) e' = true) : ∃ c' a' b' p, e' = .IfExp c' a' b' p ∧ isBor a = none ∧ isBor b = none ∧ mE T N sc c c' = true ∧ mE T N sc a a' = true ∧ mE T N sc b b' = true := by
  cases e' with
  | IfExp c' a' b' p =>
    simp only [mE, Bool.and_eq_true] at m
    obtain ⟨⟨⟨⟨m1, m2⟩, m3⟩, m4⟩, m5⟩ := m
    exact ⟨c', a', b', p, rfl, notBor_eq m1, notBor_eq m2, m3, m4, m5⟩
  | _ => cases m
theorem c_ife {c a b : Ex} (hc : ST Y T CX k G c) (ha : SE Y T CX k G a) (hb : SE Y T CX k G b) : SE Y T CX k G (.ife c a b) := @fun E N sc X e' g m => by
  obtain ⟨c', a', b', p, rfl, _, _, m1, m2, m3⟩ := v_ife m
  exact so_ife (hc g m1) (ha g m2) (hb g m3)
theorem t_ife {c a b : Ex} (hc : ST Y T CX k G c) (ha : ST Y T CX k G a) (hb : ST Y T CX k G b) : ST Y T CX k G (.ife c a b) := @fun E N sc X e' g m => by
  obtain ⟨c', a', b', p, rfl, ea, eb, m1, m2, m3⟩ := v_ife m
  have h2 := ha g m2
  have h3 := hb g m3
  rw [ea] at h2
  rw [eb] at h3
  exact pt_congr (so_ifeT (hc g m1) h2 h3) fun s => (tst_ife (f := fun s => tst (oper (isBor c) (ev G c) s)) (g := ev G a) (h := ev G b)).symm
end
end TP
end

section
set_option linter.all false
set_option maxRecDepth 100000
set_option maxHeartbeats 2000000
/-! Soundness of the matching: displays, subscripts, calls, comprehensions; all of it. -/
namespace TP
open PySem L2 PySem.Spec PyProof.Rows
section
variable {Y : Fx} {T : Tab} {CX : CXT} {k : Nat} {G : Nat → List Vl → M Vl}
/-- what is claimed of lists of terms -/
structure SEs (Y : Fx) (T : Tab) (CX : CXT) (k : Nat) (G : Nat → List Vl → M Vl) (es : Exs) : Prop where
  ds : ∀ {E : XK} {N : List Str} {sc : Scope} {X : Cx} {es' : List Expr}, Gd Y E T CX k G N sc X → mEs T N sc es es' = true → PA X es' (tDs Y E (evD G es))
  os : ∀ {E : XK} {N : List Str} {sc : Scope} {X : Cx} {es' : List Expr}, Gd Y E T CX k G N sc X → mEs T N sc es es' = true → PA X es' (tOs Y E (evO G es))
  as : ∀ {E : XK} {N : List Str} {sc : Scope} {X : Cx} {es' : List Expr}, Gd Y E T CX k G N sc X → mEs T N sc es es' = true → PA X es' (tAs Y E (evV G es))
  ws : ∀ {E : XK} {N : List Str} {sc : Scope} {X : Cx} {es' : List Expr}, Gd Y E T CX k G N sc X → mEs T N sc es es' = true → PA X es' (tWs Y E (evW G es))
  ks : ∀ {E : XK} {N : List Str} {sc : Scope} {X : Cx} {es' : List Keyword}, Gd Y E T CX k G N sc X → mKs T N sc es es' = true → PK X es' (tAs Y E (evV G es))
  po : ∀ {E : XK} {N : List Str} {sc : Scope} {X : Cx} {e' : Option Expr}, Gd Y E T CX k G N sc X → mO T N sc es e' = true → PO X e' (tP Y E (evP G es))
  cs : ∀ {E : XK} {N : List Str} {sc : Scope} {X : Cx} {es' : List Expr}, Gd Y E T CX k G N sc X → mC T N sc es es' = true → PTs X es' (tBo Y E (evC G es))
def SI (Y : Fx) (T : Tab) (CX : CXT) (k : Nat) (G : Nat → List Vl → M Vl) (it : It) : Prop := ∀ {E : XK} {N : List Str} {sc : Scope} {X : Cx} {tg e' : Expr}, Gd Y E T CX k G N sc X → mI T N sc it tg e' = true → PI X tg e' (tI Y E (evI G it)) ∧ ∀ x, foldedSetIterable e' X.env x = pure x
theorem pts_imp {X : Cx} {es : List Expr} {t t' : TT} (h : PTs X es t) (w : ∀ σ H Q, t' σ H Q → t σ H Q) : PTs X es t' := ⟨fun pins s σ H Q I q => h.run pins s σ H Q I (w σ H Q q)⟩
theorem l_nil : SEs Y T CX k G .nil where
  ds := @fun E N sc X es' g m => by
    cases es' with
    | nil => exact so_nilD
    | cons _ _ => cases m
  os := @fun E N sc X es' g m => by
    cases es' with
    | nil => exact so_nilO
    | cons _ _ => cases m
  as := @fun E N sc X es' g m => by
    cases es' with
    | nil => exact so_nilA
    | cons _ _ => cases m
  ws := @fun E N sc X es' g m => by
    cases es' with
    | nil => exact so_nilW
    | cons _ _ => cases m
  ks := @fun E N sc X es' g m => by
    cases es' with
    | nil => exact so_nilK
    | cons _ _ => cases m
  po := @fun E N sc X e' g m => by
    cases e' with
    | none => exact so_part0
    | some _ => cases m
  cs := @fun E N sc X es' g m => by
    cases es' with
    | nil => exact pts_imp pts_nil fun σ H Q ⟨C, F, dk, s, hY, hE, r, q⟩ => q F H dk r
    | cons _ _ => cases m
theorem l_cons {e : Ex} {es : Exs} (he : SE Y T CX k G e) (ht : ST Y T CX k G e) (hs : SEs Y T CX k G es) : SEs Y T CX k G (.cons e es) where
  ds := @fun E N sc X es' g m => by
    cases es' with
    | nil => cases m
    | cons e' es' =>
      simp only [mEs, Bool.and_eq_true] at m
      exact so_consD (he g m.1.1) (hs.ds g m.2) (star_cons m.1.2)
  os := @fun E N sc X es' g m => by
    cases es' with
    | nil => cases m
    | cons e' es' =>
      simp only [mEs, Bool.and_eq_true] at m
      exact so_consO (he.op g m.1.1) (hs.os g m.2) m.1.2
  as := @fun E N sc X es' g m => by
    cases es' with
    | nil => cases m
    | cons e' es' =>
      simp only [mEs, Bool.and_eq_true] at m
      exact so_consA (he g m.1.1) (hs.as g m.2) m.1.2
  ws := @fun E N sc X es' g m => by
    cases es' with
    | nil => cases m
    | cons e' es' =>
      simp only [mEs, Bool.and_eq_true] at m
      exact so_consW (he g m.1.1) (hs.ws g m.2) m.1.2
  ks := @fun E N sc X es' g m => by
    match es', m with
    | [], m => cases m
    | ⟨nm, e', p⟩ :: es', m =>
      simp only [mKs, Bool.and_eq_true] at m
      exact so_consK (he g m.1) (hs.ks g m.2)
  po := @fun E N sc X e' g m => by
    cases e' with
    | none => cases m
    | some e' => exact so_part1 (he g (by simpa only [mO] using m))
  cs := @fun E N sc X es' g m => by
    match es', m with
    | [], m => cases m
    | [e'], m => exact pts_one (ht g (by simpa only [mC] using m))
    | _ :: _ :: _, m => cases m
/-! ### displays, subscripts -/
theorem c_tup {es : Exs} (h : SEs Y T CX k G es) : SE Y T CX k G (.tup es) := @fun E N sc X e' g m => by
  cases e' with
  | Tuple es' j p =>
    simp only [mE, Bool.and_eq_true, decide_eq_true_eq] at m
    obtain ⟨l1, _⟩ := mEs_len m.1
    exact so_tup (h.ds g m.1) (evD_len es) (by rw [← l1]; exact m.2)
  | _ => cases m
theorem c_lst {es : Exs} (h : SEs Y T CX k G es) : SE Y T CX k G (.lst es) := @fun E N sc X e' g m => by
  cases e' with
  | List es' p =>
    simp only [mE, Bool.and_eq_true, decide_eq_true_eq] at m
    obtain ⟨l1, _⟩ := mEs_len m.1
    exact so_lst (h.ds g m.1) (evD_len es) (by rw [← l1]; exact m.2)
  | _ => cases m
theorem plainIx_of {b : Expr} (h : plainIx b = true) : PlainIx b := by
  intro o i
  cases b <;> first | rfl | cases h
theorem c_idx {a b : Ex} (ha : SE Y T CX k G a) (hb : SE Y T CX k G b) : SE Y T CX k G (.idx a b) := @fun E N sc X e' g m => by
  cases e' with
  | Subscript a' b' p =>
    simp only [mE, Bool.and_eq_true] at m
    exact so_idx g.hK (ha.op g m.1.1) (hb.op g m.1.2) (plainIx_of m.2)
  | _ => cases m
theorem v_slc {N : List Str} {sc : Scope} {a : Ex} {lo hi : Exs} {e' : Expr} (m : mE T N sc (.slc a lo hi) e' = true) : ∃ a' lo' hi' p p2, e' = .Subscript a' (.Slice lo' hi' none p2) p ∧ mE T N sc a a' = true ∧ mO T N sc lo lo' = true ∧ mO T N sc hi hi' = true := by
  cases e' with
  | Subscript a' b' p =>
    cases b' with
    | Slice lo' hi' st p2 =>
      cases st with
      | none =>
        simp only [mE, Bool.and_eq_true] at m
        exact ⟨a', lo', hi', p, p2, rfl, m.1.1, m.1.2, m.2⟩
      | some _ => cases m
    | _ => cases m
  | _ => cases m
theorem c_slc {a : Ex} {lo hi : Exs} (ha : SE Y T CX k G a) (hl : SEs Y T CX k G lo) (hh : SEs Y T CX k G hi) : SE Y T CX k G (.slc a lo hi) := @fun E N sc X e' g m => by
  obtain ⟨a', lo', hi', p, p2, rfl, m1, m2, m3⟩ := v_slc m
  exact so_slc g.hK (ha.op g m1) (hl.po g m2) (hh.po g m3)
theorem v_rev {N : List Str} {sc : Scope} {a : Ex} {e' : Expr} (m : mE T N sc (.rev a) e' = true) : ∃ a' j p1 p2 p3 p, e' = .Subscript a' (.Slice none none (some (.UnaryOp .USub (.Constant (.int 1) j p1) p2)) p3) p ∧ mE T N sc a a' = true := by
  cases e' with
  | Subscript a' b' p =>
    cases b' with
    | Slice lo' hi' st p3 =>
      cases lo' with
      | some _ => cases m
      | none =>
        cases hi' with
        | some _ => cases m
        | none =>
          cases st with
          | none => cases m
          | some s =>
            cases s with
            | UnaryOp u v p2 =>
              cases u with
              | USub =>
                cases v with
                | Constant c j p1 =>
                  cases c with
                  | int n =>
                    simp only [mE, Bool.and_eq_true, decide_eq_true_eq] at m
                    obtain ⟨m1, m2⟩ := m
                    subst m1
                    exact ⟨a', j, p1, p2, p3, p, rfl, m2⟩
                  | _ => cases m
                | _ => cases m
              | _ => cases m
            | _ => cases m
    | _ => cases m
  | _ => cases m
theorem c_rev {a : Ex} (ha : SE Y T CX k G a) : SE Y T CX k G (.rev a) := @fun E N sc X e' g m => by
  obtain ⟨a', j, p1, p2, p3, p, rfl, m1⟩ := v_rev m
  exact so_rev g.hK (ha.op g m1)
/-! ### own calls -/
theorem tV_congr {X : Cx} {E : XK} {e : Expr} {f g : S → M (Vl × S)} {t : TE} (h : PE X e t) (w : ∀ σ H Q, tV Y E f σ H Q → t σ H Q) (hfg : ∀ s, f s = g s) : PE X e (tV Y E g) := by
  rw [← show f = g from funext hfg]
  exact pe_imp h w
/-- arguments by place alone -/
theorem call_plain {E : XK} {m : List Vl → M Vl} {np n : Nat} {f : S → M (List Vl × S)} {σ : LS} {H : Hp} {Q : VK} (hf : HasLen n f) (hn : np = n) (q : tV Y E (fun s => (f s).bind fun r => (m r.1).bind fun v => .ret (v, r.2)) σ H Q) : tCallG (spOf Y np m) (List.range n) n 0 E (tAs Y E f) (tAs Y E fun s => .ret ([], s)) σ H Q := by
  refine call_rd (n := n) (l := 0) hf (fun s P R h => ⟨h, rfl⟩) (by rw [List.length_range, hn]) (fun i hi => by have := List.mem_range.mp hi; omega) ?_
  obtain ⟨C, F, dk, s, hY, hE, r, q⟩ := q
  refine ⟨C, F, dk, s, hY, hE, r, (M.all_bind (f s)).mpr ((hf _ _ _ ((M.all_bind (f s)).mp q)).mono (fun p hp => ?_) fun _ _ z => z)⟩
  show ((m (order (List.range n) (p.1 ++ []))).bind fun v => M.ret (v, p.2)).All _ _
  rw [List.append_nil, ← hp.2, order_range]
  exact hp.1
theorem fnOk_of {E : XK} {N : List Str} {sc : Scope} {X : Cx} (g : Gd Y E T CX k G N sc X) {f : Nat} (hf : T.has f = true) {ks : List Str} {ids : List Nat} {n : Nat} (ho : orderOk (T.pr f) n ks ids = true) : ids.length = (T.pr f).length ∧ (∀ i ∈ ids, i < n + ks.length) := by
  unfold orderOk at ho
  simp only [Bool.and_eq_true, decide_eq_true_eq] at ho
  obtain ⟨⟨⟨⟨⟨o1, o2⟩, o3⟩, o4⟩, o5⟩, o6⟩ := ho
  exact ⟨o3, fun i hi => by rw [o1]; exact o5 i hi⟩
theorem c_call {f : Nat} {es : Exs} (h : SEs Y T CX k G es) : SE Y T CX k G (.call f es) := @fun E N sc X e' g m => by
  cases e' with
  | Call gx es' kws p =>
    cases kws with
    | cons _ _ => cases m
    | nil =>
      simp only [mE, Bool.and_eq_true] at m
      obtain ⟨⟨⟨m1, m2⟩, m3⟩, m4⟩ := m
      obtain ⟨p0, rfl, h1, h2, h3⟩ := mGl_eq m1
      obtain ⟨fa, fd, e1, e2, e3, e4⟩ := g.fn f m2
      obtain ⟨l1, l2⟩ := mEs_len m3
      obtain ⟨o1, o2⟩ := fnOk_of g m2 m4
      have hl : HasLen es'.length (evV G es) := by rw [l1]; exact evV_len es
      have hnp : (T.pr f).length = es'.length := by rw [← o1, List.length_range]
      cases es' with
      | nil =>
        cases es with
        | cons _ _ => cases l1
        | nil =>
          refine pe_imp (pe_callG0 e4 e3 g.rm g.gd (g.glob h1) e1 e2 g.ps m4 (ks := []) rfl (so_nilK (Y := Y) (E := E)) h2) fun σ H Q q => ?_
          exact call_rd0 (g := fun s => .ret ([], s)) (l := 0) (fun s P R h => ⟨h, rfl⟩) o1 (fun i hi => by cases hi) q
      | cons a as =>
        refine pe_imp (pe_callG e4 e3 g.rm g.gd (g.glob h1) e1 e2 g.ps m4 l2 (ks := []) rfl (h.as g m3) (so_nilK (Y := Y) (E := E)) h2) fun σ H Q q => ?_
        exact call_plain hl hnp q
  | _ => cases m
theorem c_callK {f : Nat} {es kes : Exs} {ids : List Nat} (h : SEs Y T CX k G es) (hk : SEs Y T CX k G kes) : SE Y T CX k G (.callK f es kes ids) := @fun E N sc X e' g m => by
  cases e' with
  | Call gx es' kws p =>
    simp only [mE, Bool.and_eq_true] at m
    obtain ⟨⟨⟨⟨m1, m2⟩, m3⟩, m4⟩, m5⟩ := m
    cases hks : kwNames kws with
    | none => rw [hks] at m5; cases m5
    | some ks =>
      rw [hks] at m5
      simp only [Bool.and_eq_true, decide_eq_true_eq] at m5
      obtain ⟨m5, m6⟩ := m5
      obtain ⟨p0, rfl, h1, h2, h3⟩ := mGl_eq m1
      obtain ⟨fa, fd, e1, e2, e3, e4⟩ := g.fn f m2
      obtain ⟨l1, l2⟩ := mEs_len m3
      have l3 := mKs_len m4
      obtain ⟨o1, o2⟩ := fnOk_of g m2 m5
      have hl : HasLen es'.length (evV G es) := by rw [l1]; exact evV_len es
      have hl2 : HasLen ks.length (evV G kes) := by rw [m6, l3]; exact evV_len kes
      cases es' with
      | nil =>
        cases es with
        | cons _ _ => cases l1
        | nil =>
          refine pe_imp (pe_callG0 e4 e3 g.rm g.gd (g.glob h1) e1 e2 g.ps m5 hks (hk.ks g m4) h2) fun σ H Q q => ?_
          exact call_rd0 hl2 o1 (fun i hi => by have := o2 i hi; simpa using this) q
      | cons a as =>
        refine pe_imp (pe_callG e4 e3 g.rm g.gd (g.glob h1) e1 e2 g.ps m5 l2 hks (h.as g m3) (hk.ks g m4) h2) fun σ H Q q => ?_
        exact call_rd hl hl2 o1 o2 q
  | _ => cases m
/-! ### built-ins -/
theorem bi_glob {E : XK} {N : List Str} {sc : Scope} {X : Cx} (g : Gd Y E T CX k G N sc X) {x : Str} (hx : x ∈ biNames) (h : sc.names.lookup x = some .globalImplicit) : Gl X x ∧ X.mg x = none := ⟨g.glob h, g.mgb x hx⟩
theorem c_biP {b : Bi} {es : Exs} (h : SEs Y T CX k G es) {E : XK} {N : List Str} {sc : Scope} {X : Cx} {gx : Expr} {es' : List Expr} {p : Pos} (g : Gd Y E T CX k G N sc X) (hc : b ≠ .comb) (m1 : biOk b = true) (m2 : mGl sc (biN b) gx = true) (m3 : mEs T N sc es es' = true) (m4 : es' ≠ []) :
    PE X (.Call gx es' [] p) (tV Y E (ev G (.bi b es))) := by
  obtain ⟨p0, rfl, h1, h2, h3⟩ := mGl_eq m2
  obtain ⟨l1, l2⟩ := mEs_len m3
  cases es' with
  | nil => exact absurd rfl m4
  | cons a as => exact so_bi g.hK g.calm g.gd g.units2 m1 (g.glob h1) (g.mgb _ (bi_name b hc)) (bi_boot b hc) h3 h2 (h.os g m3) l2
theorem v_lz {N : List Str} {sc : Scope} {es : Exs} {gx : Expr} {es' : List Expr} {p : Pos} (m : mE T N sc (.bi .listZip es) (.Call gx es' [] p) = true) :
    ∃ hx es2 p2, es' = [.Call hx es2 [] p2] ∧ ((mGl sc "list" gx = true ∧ mGl sc "zip" hx = true) ∧ mEs T N sc es es2 = true) ∧ es2.length = 2 := by
  have no : ¬ (false = true) := Bool.false_ne_true
  cases es' with
  | nil => exact (no m).elim
  | cons a as =>
    cases as with
    | cons b bs => exact (no (by simpa [mE] using m)).elim
    | nil =>
      cases a with
      | Call hx es2 kw p2 =>
        cases kw with
        | cons _ _ => exact (no m).elim
        | nil =>
          simp only [mE, Bool.and_eq_true, decide_eq_true_eq] at m
          exact ⟨hx, es2, p2, rfl, m⟩
      | _ => exact (no m).elim
theorem c_bi {b : Bi} {es : Exs} (h : SEs Y T CX k G es) : SE Y T CX k G (.bi b es) := @fun E N sc X e' g m => by
  cases e' with
  | Call gx es' kws p =>
    cases kws with
    | cons _ _ => cases b <;> cases m
    | nil =>
      have ne : ∀ {l : List Expr}, (!l.isEmpty) = true → l ≠ [] := fun h z => by rw [z] at h; cases h
      cases b with
      | listZip =>
        obtain ⟨hx, es2, p2, rfl, ⟨⟨m1, m2⟩, m3⟩, m4⟩ := v_lz m
        obtain ⟨p0, rfl, h1, h2, h3⟩ := mGl_eq m1
        obtain ⟨p1, rfl, h4, h5, h6⟩ := mGl_eq m2
        obtain ⟨l1, l2⟩ := mEs_len m3
        obtain ⟨a, b, rfl⟩ := len2 m4
        obtain ⟨q1, q2⟩ := Bool.and_eq_true_iff.mp (by simpa only [List.all_cons] using l2)
        obtain ⟨q2, _⟩ := Bool.and_eq_true_iff.mp (by simpa only [List.all_cons] using q2)
        have hl : es.len = 2 := l1.symm
        exact so_lz g.hK (by rw [← hl]; exact evO_len es) g.calm (g.glob h1) (g.mgb _ (by decide +kernel)) (g.glob h4) (g.mgb _ (by decide +kernel)) (h.os g m3) q1 q2
      | comb =>
        simp only [mE, Bool.and_eq_true] at m
        obtain ⟨⟨⟨m1, m2⟩, m3⟩, m4⟩ := m
        obtain ⟨p0, rfl, h1, h2, h3⟩ := mGl_eq m2
        obtain ⟨l1, l2⟩ := mEs_len m3
        cases es' with
        | nil => cases m4
        | cons a as => exact so_biG (b := .comb) g.hK g.calm g.gd g.units2 rfl rfl (g.glob h1) (g.comb m1) h2 (h.os g m3) l2
      | _ =>
        simp only [mE, Bool.and_eq_true] at m
        obtain ⟨⟨⟨m1, m2⟩, m3⟩, m4⟩ := m
        exact c_biP h g (fun z => by cases z) m1 m2 m3 (ne m4)
  | _ => cases b <;> cases m
/-! ### isinstance -/
theorem c_isin {a : Ex} {ts : List Ty} (ha : SE Y T CX k G a) : SE Y T CX k G (.isin a ts) := @fun E N sc X e' g m => by
  cases e' with
  | Call gx es' kws p =>
    match es', kws, m with
    | [a', t'], [], m =>
      simp only [mE, Bool.and_eq_true] at m
      obtain ⟨⟨⟨m1, m2⟩, m3⟩, m4⟩ := m
      obtain ⟨p0, rfl, h1, h2, h3⟩ := mGl_eq m1
      have boot : bootBuiltins "isinstance" = some (.builtin "isinstance") := by decide +kernel
      have single : ∀ t', (clsNames ts [t'] && glNames sc [t']) = true → PE X (.Call (.Name "isinstance" p0) [a', t'] [] p) (tV Y E (ev G (.isin a ts))) := fun t' h => by
        obtain ⟨c1, c2⟩ := Bool.and_eq_true_iff.mp h
        match ts, t', c1, c2 with
        | [t], .Name x q, c1, c2 =>
          simp only [clsNames, glNames, Bool.and_eq_true, decide_eq_true_eq] at c1 c2
          exact pe_imp (pe_callB call_isi (g.glob h1) (g.mgb _ (by decide +kernel)) boot (pa_cons (ha.op g m2) (pa_cons (g.ty c1.1 c2.1) pa_nil (star_cons rfl)) (star_cons m3)) h3 h2 (star_cons m3) rfl) fun σ H Q q => isi_one g.hK q
        | [], _, c1, _ => simp [clsNames] at c1
        | _ :: _ :: _, .Name _ _, c1, _ => simp [clsNames] at c1
      cases t' with
      | Tuple es j q =>
        simp only [Bool.and_eq_true, decide_eq_true_eq] at m4
        obtain ⟨⟨c1, c2⟩, c3⟩ := m4
        obtain ⟨g1, g2⟩ := g.tys ts es c1 c2
        have ht : PE X (.Tuple es j q) (tClsT ts) := pe_imp (pe_tup g1) fun σ H Q qq => tyArgs_rd ts σ H _ ⟨by rw [List.length_map, ← g2, line_eq]; omega, fun p hp => qq p hp⟩
        exact pe_imp (pe_callB call_isiT (g.glob h1) (g.mgb _ (by decide +kernel)) boot (pa_cons (ha.op g m2) (pa_cons ht pa_nil (star_cons rfl)) (star_cons m3)) h3 h2 (star_cons m3) rfl) fun σ H Q q => isi_tup g.hK q
      | _ => exact single _ m4
    | [], _, m => cases m
    | [_], _, m => cases m
    | [_, _], _ :: _, m => cases m
    | _ :: _ :: _ :: _, _, m => cases m
  | _ => cases m
/-! ### pop -/
theorem v_pop {N : List Str} {sc : Scope} {i : Nat} {e' : Expr} (m : mE T N sc (.pop i) e' = true) : ∃ o apos cpos, e' = .Call (.Attribute o "pop" apos) [] [] cpos ∧ mN N sc i o = true ∧ (apos.endLine == cpos.line) = true := by
  cases e' with
  | Call f es kws p =>
    cases f with
    | Attribute o mm apos =>
      match es, kws, m with
      | [], [], m =>
        simp only [mE, Bool.and_eq_true, decide_eq_true_eq] at m
        obtain ⟨⟨m1, m2⟩, m3⟩ := m
        subst m2
        exact ⟨o, apos, p, rfl, m1, m3⟩
      | _ :: _, _, m => cases m
      | [], _ :: _, m => cases m
    | _ => cases m
  | _ => cases m
theorem c_pop {i : Nat} : SE Y T CX k G (.pop i) := @fun E N sc X e' g m => by
  obtain ⟨o, apos, cpos, rfl, m1, m2⟩ := v_pop m
  obtain ⟨x, p, rfl, hv⟩ := g.var m1
  exact so_pop hv m2
theorem v_popAt {N : List Str} {sc : Scope} {i : Nat} {e : Ex} {e' : Expr} (m : mE T N sc (.popAt i e) e' = true) : ∃ o apos a cpos, e' = .Call (.Attribute o "pop" apos) [a] [] cpos ∧ mN N sc i o = true ∧ (apos.endLine == cpos.line) = true ∧ mE T N sc e a = true ∧ plainE a = true := by
  cases e' with
  | Call f es kws p =>
    cases f with
    | Attribute o mm apos =>
      match es, kws, m with
      | [a], [], m =>
        simp only [mE, Bool.and_eq_true, decide_eq_true_eq] at m
        obtain ⟨⟨⟨⟨m1, m2⟩, m3⟩, m4⟩, m5⟩ := m
        subst m2
        exact ⟨o, apos, a, p, rfl, m1, m3, m4, m5⟩
      | [], _, m => cases m
      | _ :: _ :: _, _, m => cases m
      | [_], _ :: _, m => cases m
    | _ => cases m
  | _ => cases m
theorem c_popAt {i : Nat} {e : Ex} (he : SE Y T CX k G e) : SE Y T CX k G (.popAt i e) := @fun E N sc X e' g m => by
  obtain ⟨o, apos, a, cpos, rfl, m1, m2, m3, m4⟩ := v_popAt m
  obtain ⟨x, p, rfl, hv⟩ := g.var m1
  exact so_popAt hv m4 (he g m3) m2
theorem c_dict0 : SE Y T CX k G .dict0 := @fun E N sc X e' g m => by
  cases e' with
  | Dict ks vs pos =>
    match ks, vs, m with
    | [], [], m => exact pe_imp pe_dnewK fun σ H Q ⟨C, F, dk, s, hY, hE, r, q⟩ p hp => q _ _ dk _ ((r.newF hp).with_d (.dic upd_same))
  | _ => cases m
theorem v_deckGet {N : List Str} {sc : Scope} {i : Nat} {w : Bool} {e' : Expr} (m : mE T N sc (.deckGet i w) e' = true) : ∃ o y j p2 pos, e' = .Subscript o (.Constant (.str y) j p2) pos ∧ mN N sc i o = true ∧ y = if w then T.dD else T.dM := by
  cases e' with
  | Subscript o ix pos =>
    cases ix with
    | Constant c j p2 =>
      cases c with
      | str y =>
        simp only [mE, Bool.and_eq_true, decide_eq_true_eq] at m
        exact ⟨o, y, j, p2, pos, rfl, m.1, m.2⟩
      | _ => cases m
    | _ => cases m
  | _ => cases m
theorem c_deckGet {i : Nat} {w : Bool} : SE Y T CX k G (.deckGet i w) := @fun E N sc X e' g m => by
  obtain ⟨o, y, j, p2, pos, rfl, m1, m2⟩ := v_deckGet m
  obtain ⟨x, p, rfl, hv⟩ := g.var m1
  exact so_deckGet g.keys (by have := g.units; omega) hv m2
theorem v_scrCut {N : List Str} {sc : Scope} {i n : Nat} {e' : Expr} (m : mE T N sc (.scrCut i n) e' = true) : ∃ o j p2 p3 pos, e' = .Subscript o (.Slice none (some (.Constant (.int (n : Int)) j p2)) none p3) pos ∧ mN N sc i o = true := by
  cases e' with
  | Subscript o ix pos =>
    cases ix with
    | Slice lo hi st p3 =>
      match lo, hi, st, m with
      | none, some (.Constant (.int kk) j p2), none, m =>
        simp only [mE, Bool.and_eq_true, decide_eq_true_eq] at m
        obtain ⟨m1, m2⟩ := m
        subst m2
        exact ⟨o, j, p2, p3, pos, rfl, m1⟩
    | _ => cases m
  | _ => cases m
theorem c_scrCut {i n : Nat} : SE Y T CX k G (.scrCut i n) := @fun E N sc X e' g m => by
  obtain ⟨o, j, p2, p3, pos, rfl, m1⟩ := v_scrCut m
  obtain ⟨x, p, rfl, hv⟩ := g.var m1
  exact so_scrCut g.hK hv
theorem v_deckNew {N : List Str} {sc : Scope} {e : Ex} {mi : Nat} {d : Int} {e' : Expr} (m : mE T N sc (.deckNew e mi d) e' = true) : ∃ j1 p1 j2 p2 j3 p3 e1 o j4 p5 pos, e' = .Dict [some (.Constant (.str T.dL) j1 p1), some (.Constant (.str T.dM) j2 p2), some (.Constant (.str T.dD) j3 p3)] [e1, o, .Constant (.int d) j4 p5] pos ∧ mE T N sc e e1 = true ∧ mN N sc mi o = true := by
  cases e' with
  | Dict ks vs pos =>
    match ks, vs, m with
    | [some (.Constant (.str a) j1 p1), some (.Constant (.str b) j2 p2), some (.Constant (.str c) j3 p3)], [e1, o, .Constant (.int d') j4 p5], m =>
      simp only [mE, Bool.and_eq_true, decide_eq_true_eq] at m
      obtain ⟨⟨⟨⟨⟨m1, m2⟩, m3⟩, m4⟩, m5⟩, m6⟩ := m
      subst m1 m2 m3 m4
      exact ⟨j1, p1, j2, p2, j3, p3, e1, o, j4, p5, pos, rfl, m5, m6⟩
  | _ => cases m
theorem c_deckNew {e : Ex} {mi : Nat} {d : Int} (he : SE Y T CX k G e) : SE Y T CX k G (.deckNew e mi d) := @fun E N sc X e' g m => by
  obtain ⟨j1, p1, j2, p2, j3, p3, e1, o, j4, p5, pos, rfl, m1, m2⟩ := v_deckNew m
  obtain ⟨x, p, rfl, hv⟩ := g.var m2
  exact so_deckNew g.keys hv (he g m1)
/-! ### targets -/
mutual
theorem s_tg {E : XK} {N : List Str} {sc : Scope} {X : Cx} {fb : Str → Bool} (g : Gd Y E T CX k G N sc X) (hfb : ∀ x, fb x = true → X.fn x = true) : ∀ (t : Tg) (e : Expr), mT N sc fb t e = true → PG X e (tG Y (tgN t) (asg t))
  | .nm i, e, m => by
    cases e with
    | Name x p =>
      simp only [mT, Bool.and_eq_true, Bool.or_eq_true, decide_eq_true_eq] at m
      refine sg_nm (by rw [g.hN]; exact g.nd) (by rw [g.hN]; exact m.1) ?_ ?_
      · rw [g.hsc]
        rcases m.2 with h | ⟨h, _⟩
        · exact .inl (locB_eq h)
        · exact .inr (celB_eq h)
      · rcases m.2 with h | ⟨_, h⟩
        · right
          rw [g.hsc]
          exact locB_eq h
        · exact .inl (hfb x h)
    | _ => cases m
  | .tp ts, e, m => by
    cases e with
    | Tuple es j p =>
      simp only [mT, Bool.and_eq_true, decide_eq_true_eq] at m
      exact sg_tp g.hK g.calm (s_tgs g hfb ts es m.1.1) m.2 m.1.2
    | _ => cases m
theorem s_tgs {E : XK} {N : List Str} {sc : Scope} {X : Cx} {fb : Str → Bool} (g : Gd Y E T CX k G N sc X) (hfb : ∀ x, fb x = true → X.fn x = true) : ∀ (ts : Tgs) (es : List Expr), mTs N sc fb ts es = true → PGs X es (tGs Y (tgNs ts) (asgs ts))
  | .nil, [], _ => sg_nil
  | .nil, _ :: _, m => by cases m
  | .cons _ _, [], m => by cases m
  | .cons t ts, e :: es, m => by
    simp only [mTs, Bool.and_eq_true] at m
    exact sg_cons m.1.2 (s_tg g hfb t e m.1.1) (s_tgs g hfb ts es m.2)
end
/-! ### comprehensions -/
theorem v_comp {N : List Str} {sc : Scope} {e : Ex} {t : Tg} {it : It} {cs : Exs} {own : List Nat} {e' : Expr} (m : mE T N sc (.comp e t it cs own) e' = true) : ∃ el tg iter ifs scope p, e' = .ListComp el [⟨tg, iter, ifs, 0⟩] scope p ∧ blkC N sc scope (ownN N own) = true ∧ (ownN N own).map (·.2) = own ∧ (∀ i ∈ tgN t, i ∈ own) ∧
    mI T N sc it tg iter = true ∧ mT N (relS scope sc) (celB scope) t tg = true ∧ mC T N (relS scope sc) cs ifs = true ∧ mE T N (relS scope sc) e el = true := by
  cases e' with
  | ListComp el gs scope p =>
    match gs, m with
    | [⟨tg, iter, ifs, a⟩], m =>
      simp only [mE, Bool.and_eq_true, decide_eq_true_eq] at m
      obtain ⟨⟨⟨⟨⟨⟨⟨m1, m2⟩, m3⟩, m4⟩, m5⟩, m6⟩, m7⟩, m8⟩ := m
      subst m1
      exact ⟨el, tg, iter, ifs, scope, p, rfl, m2, m3, m4, m5, m6, m7, m8⟩
    | [], m => cases m
    | ⟨_, _, _, _⟩ :: _ :: _, m => cases m
  | _ => cases m
/-- the pieces of a comprehension -/
theorem comp_parts {e : Ex} {t : Tg} {it : It} {cs : Exs} {own : List Nat} (hCX : ∀ (l : List Env) (H : Hp) (s : Shared) (e : Value) (s' : Shared), CX l H s (fun _ _ _ => False) e s' → False) (he : SE Y T CX k G e) (hi : SI Y T CX k G it) (hc : SEs Y T CX k G cs)
    {E : XK} {N : List Str} {sc : Scope} {X : Cx} (g : Gd Y E T CX k G N sc X) {el tg iter : Expr} {ifs : List Expr} {scope : Scope} (m2 : blkC N sc scope (ownN N own) = true) (m5 : mI T N sc it tg iter = true) (m6 : mT N (relS scope sc) (celB scope) t tg = true) (m7 : mC T N (relS scope sc) cs ifs = true) (m8 : mE T N (relS scope sc) e el = true) :
    BlkOk X.N X.env.scope scope (ownN N own) ∧ PI X tg iter (tI Y E (evI G it)) ∧ (∀ x, foldedSetIterable iter X.env x = pure x) ∧
      (∀ (s : Shared) (H : Hp) (C : Addr) (cl : List (Str × Addr)) (fp : List Addr), PG (X.blk s H scope (compEnvC scope cl C X.env) fp) tg (tG Y (tgN t) (asg t))) ∧
      (∀ (s : Shared) (H : Hp) (C : Addr) (cl : List (Str × Addr)) (fp : List Addr), PTs (X.blk s H scope (compEnvC scope cl C X.env) fp) ifs (tBo Y (fun _ _ _ => False) (evC G cs))) ∧
      ∀ (s : Shared) (H : Hp) (C : Addr) (cl : List (Str × Addr)) (fp : List Addr), PE (X.blk s H scope (compEnvC scope cl C X.env) fp) el (tF0 Y fun s => fz (ev G e s)) := by
  obtain ⟨i1, i2⟩ := hi g m5
  refine ⟨?_, i1, i2, fun s H C cl fp => s_tg (g.blk hCX s H scope C cl fp) (fun x h => by show (scope.names.lookup x == some .cell) = true; rw [celB_eq h]; rfl) t tg m6, fun s H C cl fp => hc.cs (g.blk hCX s H scope C cl fp) m7, fun s H C cl fp => so_fz (he (g.blk hCX s H scope C cl fp) m8)⟩
  rw [g.hN, g.hsc]
  exact blkOk_by m2
theorem c_comp {e : Ex} {t : Tg} {it : It} {cs : Exs} {own : List Nat} (hCX : ∀ (l : List Env) (H : Hp) (s : Shared) (e : Value) (s' : Shared), CX l H s (fun _ _ _ => False) e s' → False) (he : SE Y T CX k G e) (hi : SI Y T CX k G it) (hc : SEs Y T CX k G cs) : SE Y T CX k G (.comp e t it cs own) := @fun E N sc X e' g m => by
  obtain ⟨el, tg, iter, ifs, scope, p, rfl, m2, m3, m4, m5, m6, m7, m8⟩ := v_comp m
  obtain ⟨b1, b2, b3, b4, b5, b6⟩ := comp_parts hCX he hi hc g m2 m5 m6 m7 m8
  refine pe_imp (pe_lc g.calm (by rw [g.hN]; exact g.nd) b2 b1 b4 b5 b6 b3) fun σ H Q q => ?_
  rw [m3]
  exact comp_rd m4 q
/-! ### walks -/
theorem noSet_of {e : Expr} {env : Env} (h : (match e with | .Set .. => false | _ => true) = true) : ∀ x, foldedSetIterable e env x = pure x := by
  intro x
  cases e <;> first | rfl | cases h
theorem i_seq {e : Ex} (he : SE Y T CX k G e) : SI Y T CX k G (.seq e) := @fun E N sc X tg e' g m => by
  simp only [mI, Bool.and_eq_true] at m
  exact ⟨so_iseq g.hK (he g m.1), noSet_of m.2⟩
theorem i_rng1 {a : Ex} (ha : SE Y T CX k G a) : SI Y T CX k G (.rng1 a) := @fun E N sc X tg e' g m => by
  cases e' with
  | Call gx es kws p =>
    match es, kws, m with
    | [a'], [], m =>
      simp only [mI, Bool.and_eq_true] at m
      obtain ⟨⟨m1, m2⟩, m3⟩ := m
      obtain ⟨p0, rfl, h1, h2, h3⟩ := mGl_eq m1
      exact ⟨so_irng1 (g.glob h1) (g.mgb _ (by decide +kernel)) m3 (ha g m2), fun x => rfl⟩
    | [], _, m => cases m
    | _ :: _ :: _, _, m => cases m
    | [_], _ :: _, m => cases m
  | _ => cases m
theorem i_rng2 {a b : Ex} (ha : SE Y T CX k G a) (hb : SE Y T CX k G b) : SI Y T CX k G (.rng2 a b) := @fun E N sc X tg e' g m => by
  cases e' with
  | Call gx es kws p =>
    match es, kws, m with
    | [a', b'], [], m =>
      simp only [mI, Bool.and_eq_true] at m
      obtain ⟨⟨⟨⟨m1, m2⟩, m3⟩, m4⟩, m5⟩ := m
      obtain ⟨p0, rfl, h1, h2, h3⟩ := mGl_eq m1
      exact ⟨so_irng2 (g.glob h1) (g.mgb _ (by decide +kernel)) m3 m5 (ha g m2) (hb g m4), fun x => rfl⟩
    | [], _, m => cases m
    | [_], _, m => cases m
    | _ :: _ :: _ :: _, _, m => cases m
    | [_, _], _ :: _, m => cases m
  | _ => cases m
theorem i_rng3 {a b c : Ex} (ha : SE Y T CX k G a) (hb : SE Y T CX k G b) (hc : SE Y T CX k G c) : SI Y T CX k G (.rng3 a b c) := @fun E N sc X tg e' g m => by
  cases e' with
  | Call gx es kws p =>
    match es, kws, m with
    | [a', b', c'], [], m =>
      simp only [mI, Bool.and_eq_true] at m
      obtain ⟨⟨⟨⟨⟨⟨m1, m2⟩, m3⟩, m4⟩, m5⟩, m6⟩, m7⟩ := m
      obtain ⟨p0, rfl, h1, h2, h3⟩ := mGl_eq m1
      exact ⟨so_irng3 (g.glob h1) (g.mgb _ (by decide +kernel)) m3 m5 m7 (ha g m2) (hb g m4) (hc g m6), fun x => rfl⟩
    | [], _, m => cases m
    | [_], _, m => cases m
    | [_, _], _, m => cases m
    | _ :: _ :: _ :: _ :: _, _, m => cases m
    | [_, _, _], _ :: _, m => cases m
  | _ => cases m
theorem i_zip {a b : Ex} (ha : SE Y T CX k G a) (hb : SE Y T CX k G b) : SI Y T CX k G (.zip a b) := @fun E N sc X tg e' g m => by
  cases tg with
  | Tuple elts kk tpos =>
    cases e' with
    | Call gx es kws p =>
      match es, kws, m with
      | [a', b'], [], m =>
        simp only [mI, Bool.and_eq_true] at m
        obtain ⟨⟨⟨⟨m1, m2⟩, m3⟩, m4⟩, m5⟩ := m
        obtain ⟨p0, rfl, h1, h2, h3⟩ := mGl_eq m1
        exact ⟨so_izip g.hK (g.glob h1) (g.mgb _ (by decide +kernel)) m3 m5 (ha g m2) (hb g m4), fun x => rfl⟩
      | [], _, m => cases m
      | [_], _, m => cases m
      | _ :: _ :: _ :: _, _, m => cases m
      | [_, _], _ :: _, m => cases m
    | _ => cases m
  | _ => cases m
theorem i_enum {a : Ex} (ha : SE Y T CX k G a) : SI Y T CX k G (.enum a) := @fun E N sc X tg e' g m => by
  cases tg with
  | Tuple elts kk tpos =>
    cases e' with
    | Call gx es kws p =>
      match es, kws, m with
      | [a'], [], m =>
        simp only [mI, Bool.and_eq_true] at m
        obtain ⟨⟨m1, m2⟩, m3⟩ := m
        obtain ⟨p0, rfl, h1, h2, h3⟩ := mGl_eq m1
        exact ⟨so_ienum g.hK (g.glob h1) (g.mgb _ (by decide +kernel)) m3 (ha g m2), fun x => rfl⟩
      | [], _, m => cases m
      | _ :: _ :: _, _, m => cases m
      | [_], _ :: _, m => cases m
    | _ => cases m
  | _ => cases m
end
end TP
end

section
set_option linter.all false
set_option maxRecDepth 100000
set_option maxHeartbeats 2000000
/-! Soundness of the matching: all terms. -/
namespace TP
open PySem L2 PySem.Spec PyProof.Rows
section
variable {Y : Fx} {T : Tab} {CX : CXT} {k : Nat} {G : Nat → List Vl → M Vl}
def plainX : Ex → Bool
  | .and .. => false
  | .or .. => false
  | .not .. => false
  | .neg .. => false
  | .cmp .. => false
  | .chain .. => false
  | .ife .. => false
  | _ => true
theorem plainX_of {N : List Str} {sc : Scope} {e : Ex} (h : plainX e = true) {e' : Expr} (m : mE T N sc e e' = true) : plainT e' = true := by
  have no : ¬ (false = true) := Bool.false_ne_true
  cases e with
  | bi b es => cases b <;> cases e' <;> first | rfl | exact (no m).elim
  | and => cases h
  | or => cases h
  | not => cases h
  | neg => cases h
  | cmp => cases h
  | chain => cases h
  | ife => cases h
  | _ => cases e' <;> first | rfl | exact (no m).elim
theorem all_plain {e : Ex} (h : plainX e = true) (he : SE Y T CX k G e) : SE Y T CX k G e ∧ ST Y T CX k G e ∧ SW Y T CX k G e :=
  ⟨he, fun g m => he.plain g m (isTrue_plain_of (plainX_of h m)), fun g m => by have := plainX_of h m; cases this⟩
theorem t_neg {a : Ex} (he : SE Y T CX k G (.neg a)) : ST Y T CX k G (.neg a) := @fun E N sc X e' g m => by
  cases e' with
  | UnaryOp o' a' p =>
    cases o' with
    | USub => exact he.plain g m fun whole => rfl
    | _ => cases m
  | _ => cases m
variable (hCX : ∀ (l : List Env) (H : Hp) (s : Shared) (e : Value) (s' : Shared), CX l H s (fun _ _ _ => False) e s' → False)
include hCX
mutual
theorem s_ex : ∀ e : Ex, SE Y T CX k G e ∧ ST Y T CX k G e ∧ SW Y T CX k G e
  | .var i => all_plain rfl c_var
  | .bor i => all_plain rfl c_bor
  | .int i => all_plain rfl c_int
  | .str x => all_plain rfl c_str
  | .bl b => all_plain rfl c_bl
  | .non => all_plain rfl c_non
  | .glob x v => all_plain rfl c_glob
  | .bin o a b => all_plain rfl (c_bin (s_ex a).1 (s_ex b).1)
  | .neg a => ⟨c_neg (s_ex a).1, t_neg (c_neg (s_ex a).1), fun g m => by cases m⟩
  | .not a => ⟨c_not (s_ex a).1, t_not (s_ex a).2.1, fun g m => by cases m⟩
  | .and a b => ⟨c_and (s_ex a).1 (s_ex b).1, t_and (w_and (s_ex a).2.1 (s_ex b).2.1 (s_ex b).2.2), w_and (s_ex a).2.1 (s_ex b).2.1 (s_ex b).2.2⟩
  | .or a b => ⟨c_or (s_ex a).1 (s_ex b).1, t_or (w_or (s_ex a).2.1 (s_ex b).2.1 (s_ex b).2.2), w_or (s_ex a).2.1 (s_ex b).2.1 (s_ex b).2.2⟩
  | .cmp o a b => ⟨c_cmp (s_ex a).1 (s_ex b).1, t_cmp (s_ex a).1 (s_ex b).1, fun g m => by cases m⟩
  | .chain o u a b c => ⟨c_chain (s_ex a).1 (s_ex b).1 (s_ex c).1, t_chain (s_ex a).1 (s_ex b).1 (s_ex c).1, fun g m => by cases m⟩
  | .ife c a b => ⟨c_ife (s_ex c).2.1 (s_ex a).1 (s_ex b).1, t_ife (s_ex c).2.1 (s_ex a).2.1 (s_ex b).2.1, fun g m => by cases m⟩
  | .tup es => all_plain rfl (c_tup (s_exs es))
  | .lst es => all_plain rfl (c_lst (s_exs es))
  | .idx a b => all_plain rfl (c_idx (s_ex a).1 (s_ex b).1)
  | .slc a lo hi => all_plain rfl (c_slc (s_ex a).1 (s_exs lo) (s_exs hi))
  | .rev a => all_plain rfl (c_rev (s_ex a).1)
  | .call f es => all_plain rfl (c_call (s_exs es))
  | .callK f es kes ids => all_plain rfl (c_callK (s_exs es) (s_exs kes))
  | .bi b es => all_plain rfl (c_bi (s_exs es))
  | .isin a ts => all_plain rfl (c_isin (s_ex a).1)
  | .pop i => all_plain rfl c_pop
  | .popAt i e => all_plain rfl (c_popAt (s_ex e).1)
  | .comp e t it cs own => all_plain rfl (c_comp hCX (s_ex e).1 (s_it it) (s_exs cs))
  | .dict0 => all_plain rfl c_dict0
  | .deckGet i w => all_plain rfl c_deckGet
  | .deckNew e mi d => all_plain rfl (c_deckNew (s_ex e).1)
  | .scrCut i n => all_plain rfl c_scrCut
theorem s_exs : ∀ es : Exs, SEs Y T CX k G es
  | .nil => l_nil
  | .cons e es => l_cons (s_ex e).1 (s_ex e).2.1 (s_exs es)
theorem s_it : ∀ it : It, SI Y T CX k G it
  | .seq e => i_seq (s_ex e).1
  | .rng1 a => i_rng1 (s_ex a).1
  | .rng2 a b => i_rng2 (s_ex a).1 (s_ex b).1
  | .rng3 a b c => i_rng3 (s_ex a).1 (s_ex b).1 (s_ex c).1
  | .zip a b => i_zip (s_ex a).1 (s_ex b).1
  | .enum a => i_enum (s_ex a).1
end
end
end TP
end

section
set_option linter.all false
set_option maxRecDepth 100000
/-! The statements of the deck: which they are. -/
namespace TP
open PySem L2 PySem.Spec PyProof.Rows
def popC (T : Tab) (N : List Str) (sc : Scope) (i : Nat) : Expr → Bool
  | .Compare (.Subscript o (.Constant (.str y) _ _) _) [.NotEq] [.List [] _] _ => mN N sc i o && decide (y = T.dL)
  | _ => false
def popA (T : Tab) (N : List Str) (sc : Scope) (i j : Nat) : Stmt → Bool
  | .Assign [.Name x px] (.Call (.Attribute (.Subscript o (.Constant (.str y) _ _) _) mm apos) [] [] cpos) _ => mN N sc j (.Name x px) && (locB sc x || celB sc x) && mN N sc i o && decide (y = T.dL) && decide (mm = Str.ofString "pop") && (apos.endLine == cpos.line)
  | _ => false
def popB (T : Tab) (N : List Str) (sc : Scope) (i j m : Nat) : Stmt → Option (List Stmt)
  | .If (.Compare c1 [.GtE] [.BinOp (.Constant (.int n1) _ _) .Pow (.Constant (.int n2) _ _) _] _) (.Expr (.Call (.Attribute (.Subscript o3 (.Constant (.str y3) _ _) _) m2 apos2) [.BinOp c2 .FloorDiv (.Call g [.Constant (.int n3) _ _, mo] [] _) _] [] cpos2) _ :: ra) [] _ =>
    if (mN N sc j c1 && decide (n1 = 10) && decide (n2 = 18) && mN N sc i o3 && decide (y3 = T.dL) && decide (m2 = Str.ofString "append") && (apos2.endLine == cpos2.line) && mN N sc j c2 && mGl sc "max" g && decide (n3 = 2) && mN N sc m mo) = true then some ra else none
  | _ => none
def popX (T : Tab) (N : List Str) (sc : Scope) (i j m : Nat) : Stmt → Option (List Stmt × List Stmt)
  | .If c (s1 :: s2 :: rb) [] _ => if (popC T N sc i c && popA T N sc i j s1 && decide (i ≠ j) && decide (m ≠ j)) = true then (popB T N sc i j m s2).map (·, rb) else none
  | _ => none
theorem v_popC {T : Tab} {N : List Str} {sc : Scope} {i : Nat} {e : Expr} (h : popC T N sc i e = true) : ∃ o k1 p2 p3 p4 p5, e = .Compare (.Subscript o (.Constant (.str T.dL) k1 p2) p3) [.NotEq] [.List [] p4] p5 ∧ mN N sc i o = true := by
  unfold popC at h
  split at h
  · obtain ⟨h1, h2⟩ := Bool.and_eq_true_iff.mp h
    have h3 := of_decide_eq_true h2
    subst h3
    exact ⟨_, _, _, _, _, _, rfl, h1⟩
  · cases h
theorem v_popA {T : Tab} {N : List Str} {sc : Scope} {i j : Nat} {e : Stmt} (h : popA T N sc i j e = true) : ∃ x p6 o k2 p8 p9 apos cpos p10, e = .Assign [.Name x p6] (.Call (.Attribute (.Subscript o (.Constant (.str T.dL) k2 p8) p9) "pop" apos) [] [] cpos) p10 ∧
    mN N sc j (.Name x p6) = true ∧ (locB sc x || celB sc x) = true ∧ mN N sc i o = true ∧ (apos.endLine == cpos.line) = true := by
  unfold popA at h
  split at h
  · simp only [Bool.and_eq_true, decide_eq_true_eq] at h
    obtain ⟨⟨⟨⟨⟨h1, h2⟩, h3⟩, h4⟩, h5⟩, h6⟩ := h
    subst h4 h5
    exact ⟨_, _, _, _, _, _, _, _, _, rfl, h1, h2, h3, h6⟩
  · cases h
theorem v_popB {T : Tab} {N : List Str} {sc : Scope} {i j m : Nat} {e : Stmt} {ra : List Stmt} (h : popB T N sc i j m e = some ra) : ∃ c1 k3 p12 k4 p13 p14 p15 o k5 q2 q3 apos2 c2 g k6 q6 mo q8 q9 cpos2 q10 q11,
    e = .If (.Compare c1 [.GtE] [.BinOp (.Constant (.int 10) k3 p12) .Pow (.Constant (.int 18) k4 p13) p14] p15) (.Expr (.Call (.Attribute (.Subscript o (.Constant (.str T.dL) k5 q2) q3) "append" apos2) [.BinOp c2 .FloorDiv (.Call g [.Constant (.int 2) k6 q6, mo] [] q8) q9] [] cpos2) q10 :: ra) [] q11 ∧
    mN N sc j c1 = true ∧ mN N sc i o = true ∧ (apos2.endLine == cpos2.line) = true ∧ mN N sc j c2 = true ∧ mGl sc "max" g = true ∧ mN N sc m mo = true := by
  unfold popB at h
  split at h
  · split at h
    · rename_i hh
      simp only [Bool.and_eq_true, decide_eq_true_eq] at hh
      obtain ⟨⟨⟨⟨⟨⟨⟨⟨⟨⟨h1, h2⟩, h3⟩, h4⟩, h5⟩, h6⟩, h7⟩, h8⟩, h9⟩, h10⟩, h11⟩ := hh
      have e0 := Option.some.inj h
      subst h2 h3 h5 h6 h10 e0
      exact ⟨_, _, _, _, _, _, _, _, _, _, _, _, _, _, _, _, _, _, _, _, _, _, rfl, h1, h4, h7, h8, h9, h11⟩
    · cases h
  · cases h
theorem v_popX {T : Tab} {N : List Str} {sc : Scope} {i j m : Nat} {st : Stmt} {ra rb : List Stmt} (h : popX T N sc i j m st = some (ra, rb)) : ∃ c s1 s2 pos, st = .If c (s1 :: s2 :: rb) [] pos ∧ popC T N sc i c = true ∧ popA T N sc i j s1 = true ∧ i ≠ j ∧ m ≠ j ∧ popB T N sc i j m s2 = some ra := by
  unfold popX at h
  split at h
  · split at h
    · rename_i hh
      simp only [Bool.and_eq_true, decide_eq_true_eq] at hh
      obtain ⟨⟨⟨h1, h2⟩, h3⟩, h4⟩ := hh
      obtain ⟨x, e1, e2⟩ := map_opt h
      cases e2
      exact ⟨_, _, _, _, rfl, h1, h2, h3, h4, e1⟩
    · cases h
  · cases h
end TP
end

section
set_option linter.all false
set_option maxRecDepth 100000
set_option maxHeartbeats 2000000
/-! Soundness of the matching: statements. -/
namespace TP
open PySem L2 PySem.Spec PyProof.Rows
/-- which way a comprehension's value goes into a name -/
def swB (x : Str) (p : Pos) (e : Expr) : Bool := match e with
  | .ListComp _ _ scope pos => (p.line == pos.line) && !(scope.names.any fun (n, k) => n == x && (k == .local || k == .cell))
  | _ => false
def isLc : Expr → Bool
  | .ListComp .. => true
  | _ => false
def par2B (sc : Scope) (ts es : List Expr) : Bool := match ts with
  | [.Name x px, .Name y py] => locB sc x && locB sc y && (py.line == px.line) && decide (x ≠ y) && !(es.all (foldedForSure 8)) && !(es.all (constantsAlone 8))
  | _ => false
def par3B (sc : Scope) (ts es : List Expr) : Bool := match ts with
  | [.Name x px, .Name y py, .Name z pz] => locB sc x && locB sc y && locB sc z && (py.line == px.line) && (pz.line == px.line) && decide (x ≠ y) && decide (x ≠ z) && decide (y ≠ z) && !(es.all (foldedForSure 8)) && !(es.all (constantsAlone 8))
  | _ => false
def parNB (sc : Scope) (ts es : List Expr) : Bool := cellB sc ts || (decide (ts.length ≠ 2) && decide (ts.length ≠ 3)) || es.all (foldedForSure 8)
mutual
def mS (T : Tab) (N : List Str) (sc : Scope) : St → Stmt → Bool
  | .asg i e, .Assign [.Name x p] e' _ => decide (N[i]? = some x) && (locB sc x || celB sc x) && mE T N sc e e' && (noComp e' || isLc e')
  | .asgT t e, .Assign [tg] e' _ => mT N sc (fun _ => true) t tg && plainE tg && mE T N sc e e' && noComp e' && noTup e'
  | .par is es, .Assign [.Tuple ts _ _] (.Tuple es' _ _) _ => nmsOk N sc is ts && mEs T N sc es es' && decide (ts.length = es'.length) && decide (is.length ≤ 1000) && (par2B sc ts es' || par3B sc ts es' || parNB sc ts es')
  | .aug i o e, .AugAssign (.Name x _) op e' _ => decide (N[i]? = some x) && (locB sc x || celB sc x) && mE T N sc e e' && ((decide (o = .add) && decide (op = .Add)) || (decide (o = .sub) && decide (op = .Sub)))
  | .setIx i a b, .Assign [.Subscript o a' _] b' _ => mN N sc i o && mE T N sc a a' && mE T N sc b b' && noComp b' && plainIx a'
  | .append i e, .Expr (.Call (.Attribute o m apos) [e'] [] cpos) _ => mN N sc i o && decide (m = Str.ofString "append") && (apos.endLine == cpos.line) && mE T N sc e e' && plainE e'
  | .extend i e, .Expr (.Call (.Attribute o m apos) [e'] [] cpos) _ => mN N sc i o && decide (m = Str.ofString "extend") && (apos.endLine == cpos.line) && mE T N sc e e' && plainE e'
  | .expr e, .Expr e' _ => mE T N sc e e' && noComp e'
  | .ret e, .Return (some e') _ => mE T N sc e e'
  | .retN, .Return none _ => true
  | .ite c a b, .If c' a' b' _ => mE T N sc c c' && mSs T N sc a a' && mSs T N sc b b'
  | .whil c b, .While c' b' [] _ => mE T N sc c c' && mSs T N sc b b'
  | .for_ t it b, .For tg it' b' [] _ => mI T N sc it tg it' && mT N sc (fun _ => true) t tg && mSs T N sc b b'
  | .never, _ => true
  | .deckPut i w e, .Assign [.Subscript o (.Constant (.str y) _ _) _] b' _ => mN N sc i o && decide (y = if w then T.dD else T.dM) && mE T N sc e b' && noComp b'
  | .deckPop i j mi a b, st => match popX T N sc i j mi st with
    | some r => mSs T N sc a r.1 && mSs T N sc b r.2
    | none => false
  | .pass, .Pass _ => true
  | .brk, .Break _ => true
  | .cont, .Continue _ => true
  | _, _ => false
def mSs (T : Tab) (N : List Str) (sc : Scope) : Sts → List Stmt → Bool
  | .nil, [] => true
  | .cons s r, s' :: r' => mS T N sc s s' && mSs T N sc r r'
  | _, _ => false
end
structure Gs (Y : Fx) (E : XK) (T : Tab) (CX : CXT) (k : Nat) (G : Nat → List Vl → M Vl) (N : List Str) (sc : Scope) (X : Cx) : Prop extends Gd Y E T CX k G N sc X where
  kind : sc.kind = .function
  fnT : ∀ x, X.fn x = true
  own : PassesOwn (model X.prog X.w) X.A X.env X.xe
section
variable {Y : Fx} {T : Tab} {CX : CXT} {k n : Nat} {G : Nat → List Vl → M Vl}
def SS (Y : Fx) (T : Tab) (CX : CXT) (k n : Nat) (G : Nat → List Vl → M Vl) (st : St) : Prop := ∀ {E : XK} {N : List Str} {sc : Scope} {X : Cx} {st' : Stmt}, Gs Y E T CX k G N sc X → mS T N sc st st' = true → PS X st' (tS Y E (exec n G st))
def SSs (Y : Fx) (T : Tab) (CX : CXT) (k n : Nat) (G : Nat → List Vl → M Vl) (st : Sts) : Prop := ∀ {E : XK} {N : List Str} {sc : Scope} {X : Cx} {st' : List Stmt}, Gs Y E T CX k G N sc X → mSs T N sc st st' = true → PSs X st' (tS Y E (execs n G st))
theorem swF_of {e : Expr} {t : Option Expr} {l : Nat} {env : Env} (h : noComp e = true) : swapsWith e t l env = pure false := by
  unfold swapsWith
  cases e <;> first | rfl | cases h
theorem swF_lc {el : Expr} {gs : List Comprehension} {scope : Scope} {pos p : Pos} {x : Str} {l : Nat} {env : Env} (h : swB x p (.ListComp el gs scope pos) = false) : swapsWith (.ListComp el gs scope pos) (some (.Name x p)) l env = pure false := by
  have h' : ((p.line == pos.line) && !(scope.names.any fun (n, k) => n == x && (k == .local || k == .cell))) = false := h
  unfold swapsWith
  show pure (env.blockKind == .function && env.kindOf x == some .local && p.line == pos.line && !(scope.names.any fun (n, k) => n == x && (k == .local || k == .cell))) = pure false
  rw [Bool.and_assoc, h', Bool.and_false]
theorem swF_cell {el : Expr} {gs : List Comprehension} {scope : Scope} {pos p : Pos} {x : Str} {l : Nat} {env : Env} (h : env.scope.names.lookup x ≠ some .local) : swapsWith (.ListComp el gs scope pos) (some (.Name x p)) l env = pure false := by
  have hk : (env.kindOf x == some .local) = false := by
    show (env.scope.names.lookup x == some .local) = false
    cases e : env.scope.names.lookup x with
    | none => rfl
    | some kd => cases kd <;> first | rfl | exact absurd e h
  unfold swapsWith
  show pure (env.blockKind == .function && env.kindOf x == some .local && p.line == pos.line && !(scope.names.any fun (n, k) => n == x && (k == .local || k == .cell))) = pure false
  rw [hk, Bool.and_false]
  rfl
theorem noT : ¬ (false = true) := Bool.false_ne_true
theorem lcB_of {sc : Scope} {x : Str} (h : (locB sc x || celB sc x) = true) : Loc sc x := by
  rcases Bool.or_eq_true_iff.mp h with h | h
  · exact .inl (locB_eq h)
  · exact .inr (celB_eq h)
theorem v_asg {N : List Str} {sc : Scope} {i : Nat} {e : Ex} {st' : Stmt} (m : mS T N sc (.asg i e) st' = true) : ∃ x p e' pos, st' = .Assign [.Name x p] e' pos ∧ N[i]? = some x ∧ Loc sc x ∧ mE T N sc e e' = true ∧ (noComp e' || isLc e') = true := by
  cases st' with
  | Assign ts e' pos =>
    cases ts with
    | nil => exact (noT m).elim
    | cons t ts =>
      cases t with
      | Name x p =>
        cases ts with
        | cons _ _ => exact (noT m).elim
        | nil =>
          simp only [mS, Bool.and_eq_true, decide_eq_true_eq] at m
          exact ⟨x, p, e', pos, rfl, m.1.1.1, lcB_of m.1.1.2, m.1.2, m.2⟩
      | _ => cases ts <;> exact (noT m).elim
  | _ => exact (noT m).elim
theorem s_asg (hCX : ∀ (l : List Env) (H : Hp) (s : Shared) (e : Value) (s' : Shared), CX l H s (fun _ _ _ => False) e s' → False) {i : Nat} {e : Ex} : SS Y T CX k n G (.asg i e) := @fun E N sc X st' g m => by
  obtain ⟨x, p, e', pos, rfl, m1, m2, m3, m4⟩ := v_asg m
  have hN : X.N.Nodup := by rw [g.hN]; exact g.nd
  have hi : X.N[i]? = some x := by rw [g.hN]; exact m1
  have hx : Loc X.env.scope x := by rw [g.hsc]; exact m2
  have hf : X.fn x = true ∨ X.env.scope.names.lookup x = some .local := .inl (g.fnT x)
  have he := (s_ex hCX e).1 g.toGd m3
  by_cases hc : noComp e' = true
  · exact st_asg hN hi hx hf he (swF_of hc)
  · have hlc : isLc e' = true := by
      rcases Bool.or_eq_true_iff.mp m4 with z | z
      · exact absurd z hc
      · exact z
    cases e' with
    | ListComp el gs scope lpos =>
      by_cases hloc : X.env.scope.names.lookup x = some .local
      case neg => exact st_asg hN hi hx hf he (swF_cell hloc)
      cases hsw : swB x p (.ListComp el gs scope lpos) with
      | false => exact st_asg hN hi hx hf he (swF_lc hsw)
      | true =>
        -- the list goes into the name ahead of the block's end
        have hsw' : ((p.line == lpos.line) && !(scope.names.any fun (n, k) => n == x && (k == .local || k == .cell))) = true := hsw
        obtain ⟨w1, w2⟩ := Bool.and_eq_true_iff.mp hsw'
        cases e with
        | comp el0 t it cs own =>
          obtain ⟨el1, tg, iter, ifs, scope1, p1, e1, m2, m3', m4', m5, m6, m7, m8⟩ := v_comp m3
          cases e1
          obtain ⟨b1, b2, b3, b4, b5, b6⟩ := comp_parts hCX (s_ex hCX el0).1 (s_it hCX it) (s_exs hCX cs) g.toGd m2 m5 m6 m7 m8
          refine ps_imp (ps_setLc g.calm hN hi hloc (sw_true (by rw [g.hsc]; exact g.kind) hloc w1 (by simpa using w2)) b2 b1 b4 b5 b6 b3) fun D σ H q => ?_
          rw [m3']
          exact comp_rd m4' (asg_rd q)
        | bi b es => cases b <;> cases m3
        | _ => cases m3
    | _ => cases hlc
theorem v_asgT {N : List Str} {sc : Scope} {t : Tg} {e : Ex} {st' : Stmt} (m : mS T N sc (.asgT t e) st' = true) : ∃ tg e' pos, st' = .Assign [tg] e' pos ∧ mT N sc (fun _ => true) t tg = true ∧ plainE tg = true ∧ mE T N sc e e' = true ∧ noComp e' = true ∧ noTup e' = true := by
  cases st' with
  | Assign ts e' pos =>
    cases ts with
    | nil => exact (noT m).elim
    | cons tg ts =>
      cases ts with
      | cons _ _ => exact (noT m).elim
      | nil =>
        simp only [mS, Bool.and_eq_true] at m
        exact ⟨tg, e', pos, rfl, m.1.1.1.1, m.1.1.1.2, m.1.1.2, m.1.2, m.2⟩
  | _ => exact (noT m).elim
theorem sw_tup {tg e' : Expr} {env : Env} (h : noTup e' = true) : swappedStores [tg] e' env = pure none := by
  unfold swappedStores
  cases e' <;> first | (cases h; done) | (cases tg <;> rfl)
theorem s_asgT (hCX : ∀ (l : List Env) (H : Hp) (s : Shared) (e : Value) (s' : Shared), CX l H s (fun _ _ _ => False) e s' → False) {t : Tg} {e : Ex} : SS Y T CX k n G (.asgT t e) := @fun E N sc X st' g m => by
  obtain ⟨tg, e', pos, rfl, m1, m2, m3, m4, m5⟩ := v_asgT m
  exact st_asgT m2 (s_tg g.toGd (fun x _ => g.fnT x) t tg m1) ((s_ex hCX e).1 g.toGd m3) (swF_of m4) (sw_tup m5)
theorem v_par {N : List Str} {sc : Scope} {is : List Nat} {es : Exs} {st' : Stmt} (m : mS T N sc (.par is es) st' = true) : ∃ ts es' k1 k2 p1 p2 pos, st' = .Assign [.Tuple ts k1 p1] (.Tuple es' k2 p2) pos ∧ nmsOk N sc is ts = true ∧ mEs T N sc es es' = true ∧ ts.length = es'.length ∧ is.length ≤ 1000 ∧ (par2B sc ts es' || par3B sc ts es' || parNB sc ts es') = true := by
  cases st' with
  | Assign ts e' pos =>
    cases ts with
    | nil => exact (noT m).elim
    | cons tg ts =>
      cases tg with
      | Tuple us k1 p1 =>
        cases ts with
        | cons _ _ => exact (noT m).elim
        | nil =>
          cases e' with
          | Tuple es' k2 p2 =>
            simp only [mS, Bool.and_eq_true, decide_eq_true_eq] at m
            exact ⟨us, es', k1, k2, p1, p2, pos, rfl, m.1.1.1.1, m.1.1.1.2, m.1.1.2, m.1.2, m.2⟩
          | _ => exact (noT m).elim
      | _ => cases ts <;> exact (noT m).elim
  | _ => exact (noT m).elim
theorem nms_len {N : List Str} {sc : Scope} : ∀ {is : List Nat} {ts : List Expr}, nmsOk N sc is ts = true → ts.length = is.length
  | [], [], _ => rfl
  | i :: is, .Name x p :: ts, h => by
    have h' : (decide (N[i]? = some x) && (match sc.names.lookup x with | some .local => true | some .cell => true | _ => false) && nmsOk N sc is ts) = true := h
    simp only [Bool.and_eq_true] at h'
    exact congrArg Nat.succ (nms_len h'.2)
  | [], _ :: _, h => by cases h
  | _ :: _, [], h => by cases h
theorem ix_ne {N : List Str} (nd : N.Nodup) {i j : Nat} {x y : Str} (h1 : N[i]? = some x) (h2 : N[j]? = some y) (hxy : x ≠ y) : i ≠ j := fun e => by
  rw [e, h2] at h1
  exact hxy (Option.some.inj h1).symm
theorem s_par (hCX : ∀ (l : List Env) (H : Hp) (s : Shared) (e : Value) (s' : Shared), CX l H s (fun _ _ _ => False) e s' → False) {is : List Nat} {es : Exs} : SS Y T CX k n G (.par is es) := @fun E N sc X st' g m => by
  obtain ⟨ts, es', k1, k2, p1, p2, pos, rfl, m1, m2, m3, m4, m5⟩ := v_par m
  obtain ⟨l1, l2⟩ := mEs_len m2
  have l3 := nms_len m1
  have hN : X.N.Nodup := by rw [g.hN]; exact g.nd
  have hws := (s_exs (Y := Y) (T := T) (CX := CX) (k := k) (G := G) hCX es).ws g.toGd m2
  have hk : X.env.scope.kind = .function := by rw [g.hsc]; exact g.kind
  rcases Bool.or_eq_true_iff.mp m5 with m6 | m6
  · rcases Bool.or_eq_true_iff.mp m6 with m7 | m7
    · unfold par2B at m7
      split at m7
      · rename_i x px y py
        simp only [Bool.and_eq_true, decide_eq_true_eq, Bool.not_eq_true'] at m7
        obtain ⟨⟨⟨⟨⟨q5, q6⟩, q1⟩, q2⟩, q3⟩, q4⟩ := m7
        obtain ⟨a, b, rfl⟩ := len2 m3.symm
        obtain ⟨i, j, rfl⟩ := len2 l3.symm
        simp only [nmsOk, Bool.and_eq_true, decide_eq_true_eq] at m1
        simp only [List.all_cons, Bool.and_eq_true] at l2
        have hl : es.len = 2 := l1.symm
        refine st_par2 (by rw [← hl]; exact evW_len es) g.calm hN (by rw [g.hN]; exact m1.1.1) (by rw [g.hN]; exact m1.2.1.1) (ix_ne g.nd m1.1.1 m1.2.1.1 q2) (by rw [g.hsc]; exact locB_eq q5) (by rw [g.hsc]; exact locB_eq q6) hws ?_
        exact sw_two hk (by rw [g.hsc]; exact locB_eq q5) (by rw [g.hsc]; exact locB_eq q6) q1 q2 l2.1 l2.2.1 q3 q4
      · cases m7
    · unfold par3B at m7
      split at m7
      · rename_i x px y py z pz
        simp only [Bool.and_eq_true, decide_eq_true_eq, Bool.not_eq_true'] at m7
        obtain ⟨⟨⟨⟨⟨⟨⟨⟨⟨r1, r2⟩, r3⟩, q1⟩, q2⟩, q3⟩, q4⟩, q5⟩, q6⟩, q7⟩ := m7
        obtain ⟨a, b, c, rfl⟩ := len3 m3.symm
        obtain ⟨i, j, l, rfl⟩ := len3 l3.symm
        simp only [nmsOk, Bool.and_eq_true, decide_eq_true_eq] at m1
        simp only [List.all_cons, Bool.and_eq_true] at l2
        have hl : es.len = 3 := l1.symm
        refine st_par3 (by rw [← hl]; exact evW_len es) g.calm hN (by rw [g.hN]; exact m1.1.1) (by rw [g.hN]; exact m1.2.1.1) (by rw [g.hN]; exact m1.2.2.1.1) (ix_ne g.nd m1.1.1 m1.2.1.1 q3) (ix_ne g.nd m1.1.1 m1.2.2.1.1 q4) (ix_ne g.nd m1.2.1.1 m1.2.2.1.1 q5)
          (by rw [g.hsc]; exact locB_eq r1) (by rw [g.hsc]; exact locB_eq r2) (by rw [g.hsc]; exact locB_eq r3) hws ?_
        exact sw_three hk (by rw [g.hsc]; exact locB_eq r1) (by rw [g.hsc]; exact locB_eq r2) (by rw [g.hsc]; exact locB_eq r3) q1 q2 q3 q4 q5 l2.1 l2.2.1 l2.2.2.1 q6 q7
      · cases m7
  · refine st_parN (by rw [← l3, m3, l1]; exact evW_len es) g.calm hN g.fnT (by rw [g.hN, g.hsc]; exact m1) m4 hws ?_
    simp only [parNB, Bool.or_eq_true, Bool.and_eq_true, decide_eq_true_eq] at m6
    rcases m6 with (m6 | m6) | m6
    · exact sw_cell (by rw [g.hsc]; exact m6)
    · exact sw_none (.inl m6)
    · exact sw_none (.inr m6)
theorem s_aug (hCX : ∀ (l : List Env) (H : Hp) (s : Shared) (e : Value) (s' : Shared), CX l H s (fun _ _ _ => False) e s' → False) {i : Nat} {o : Op} {e : Ex} : SS Y T CX k n G (.aug i o e) := @fun E N sc X st' g m => by
  cases st' with
  | AugAssign t op e' pos =>
    cases t with
    | Name x p =>
      simp only [mS, Bool.and_eq_true, Bool.or_eq_true, decide_eq_true_eq] at m
      obtain ⟨⟨⟨m1, m2⟩, m3⟩, m4⟩ := m
      exact st_aug m4 (by rw [g.hN]; exact g.nd) (by rw [g.hN]; exact m1) (by rw [g.hsc]; exact lcB_of (Bool.or_eq_true_iff.mpr m2)) (.inl (g.fnT x)) ((s_ex hCX e).1 g.toGd m3)
    | _ => exact (noT m).elim
  | _ => exact (noT m).elim
theorem v_setIx {N : List Str} {sc : Scope} {i : Nat} {a b : Ex} {st' : Stmt} (m : mS T N sc (.setIx i a b) st' = true) : ∃ o a' tp b' pos, st' = .Assign [.Subscript o a' tp] b' pos ∧ mN N sc i o = true ∧ mE T N sc a a' = true ∧ mE T N sc b b' = true ∧ noComp b' = true ∧ plainIx a' = true := by
  cases st' with
  | Assign ts e' pos =>
    cases ts with
    | nil => exact (noT m).elim
    | cons tg ts =>
      cases tg with
      | Subscript o a' tp =>
        cases ts with
        | cons _ _ => exact (noT m).elim
        | nil =>
          simp only [mS, Bool.and_eq_true] at m
          exact ⟨o, a', tp, e', pos, rfl, m.1.1.1.1, m.1.1.1.2, m.1.1.2, m.1.2, m.2⟩
      | _ => cases ts <;> exact (noT m).elim
  | _ => exact (noT m).elim
theorem s_setIx (hCX : ∀ (l : List Env) (H : Hp) (s : Shared) (e : Value) (s' : Shared), CX l H s (fun _ _ _ => False) e s' → False) {i : Nat} {a b : Ex} : SS Y T CX k n G (.setIx i a b) := @fun E N sc X st' g m => by
  obtain ⟨o, a', tp, b', pos, rfl, m1, m2, m3, m4, m5⟩ := v_setIx m
  obtain ⟨x, p, rfl, hv⟩ := g.toGd.var m1
  refine st_setIx hv ((s_ex hCX a).1 g.toGd m2) ((s_ex hCX b).1 g.toGd m3) (swF_of (t := some (.Subscript (.Name x p) a' tp)) (l := pos.line) (env := X.env) m4) (by unfold swappedStores; rfl) fun v => ?_
  cases a' <;> first | rfl | cases m5
theorem v_app {N : List Str} {sc : Scope} {i : Nat} {e : Ex} {st' : Stmt} (m : mS T N sc (.append i e) st' = true) : ∃ o apos e' cpos pos, st' = .Expr (.Call (.Attribute o "append" apos) [e'] [] cpos) pos ∧ mN N sc i o = true ∧ (apos.endLine == cpos.line) = true ∧ mE T N sc e e' = true ∧ plainE e' = true := by
  cases st' with
  | Expr e0 pos =>
    cases e0 with
    | Call f es kws cpos =>
      cases f with
      | Attribute o mm apos =>
        match es, kws, m with
        | [a], [], m =>
          simp only [mS, Bool.and_eq_true, decide_eq_true_eq] at m
          obtain ⟨⟨⟨⟨m1, m2⟩, m3⟩, m4⟩, m5⟩ := m
          subst m2
          exact ⟨o, apos, a, cpos, pos, rfl, m1, m3, m4, m5⟩
        | [], _, m => cases m
        | _ :: _ :: _, _, m => cases m
        | [_], _ :: _, m => cases m
      | _ => exact (noT m).elim
    | _ => exact (noT m).elim
  | _ => exact (noT m).elim
theorem v_ext {N : List Str} {sc : Scope} {i : Nat} {e : Ex} {st' : Stmt} (m : mS T N sc (.extend i e) st' = true) : ∃ o apos e' cpos pos, st' = .Expr (.Call (.Attribute o "extend" apos) [e'] [] cpos) pos ∧ mN N sc i o = true ∧ (apos.endLine == cpos.line) = true ∧ mE T N sc e e' = true ∧ plainE e' = true := by
  cases st' with
  | Expr e0 pos =>
    cases e0 with
    | Call f es kws cpos =>
      cases f with
      | Attribute o mm apos =>
        match es, kws, m with
        | [a], [], m =>
          simp only [mS, Bool.and_eq_true, decide_eq_true_eq] at m
          obtain ⟨⟨⟨⟨m1, m2⟩, m3⟩, m4⟩, m5⟩ := m
          subst m2
          exact ⟨o, apos, a, cpos, pos, rfl, m1, m3, m4, m5⟩
        | [], _, m => cases m
        | _ :: _ :: _, _, m => cases m
        | [_], _ :: _, m => cases m
      | _ => exact (noT m).elim
    | _ => exact (noT m).elim
  | _ => exact (noT m).elim
theorem s_append (hCX : ∀ (l : List Env) (H : Hp) (s : Shared) (e : Value) (s' : Shared), CX l H s (fun _ _ _ => False) e s' → False) {i : Nat} {e : Ex} : SS Y T CX k n G (.append i e) := @fun E N sc X st' g m => by
  obtain ⟨o, apos, e', cpos, pos, rfl, m1, m2, m3, m4⟩ := v_app m
  obtain ⟨x, p, rfl, hv⟩ := g.toGd.var m1
  exact st_append hv m4 ((s_ex hCX e).1 g.toGd m3) m2
theorem s_extend (hCX : ∀ (l : List Env) (H : Hp) (s : Shared) (e : Value) (s' : Shared), CX l H s (fun _ _ _ => False) e s' → False) {i : Nat} {e : Ex} : SS Y T CX k n G (.extend i e) := @fun E N sc X st' g m => by
  obtain ⟨o, apos, e', cpos, pos, rfl, m1, m2, m3, m4⟩ := v_ext m
  obtain ⟨x, p, rfl, hv⟩ := g.toGd.var m1
  exact st_extend hv m4 ((s_ex hCX e).1 g.toGd m3) m2
theorem s_expr (hCX : ∀ (l : List Env) (H : Hp) (s : Shared) (e : Value) (s' : Shared), CX l H s (fun _ _ _ => False) e s' → False) {e : Ex} : SS Y T CX k n G (.expr e) := @fun E N sc X st' g m => by
  cases st' with
  | Expr e' pos =>
    simp only [mS, Bool.and_eq_true] at m
    exact st_expr ((s_ex hCX e).1 g.toGd m.1) (swF_of m.2)
  | _ => exact (noT m).elim
theorem s_ret (hCX : ∀ (l : List Env) (H : Hp) (s : Shared) (e : Value) (s' : Shared), CX l H s (fun _ _ _ => False) e s' → False) {e : Ex} : SS Y T CX k n G (.ret e) := @fun E N sc X st' g m => by
  cases st' with
  | Return v pos =>
    cases v with
    | none => exact (noT m).elim
    | some e' =>
      have m' : mE T N sc e e' = true := by simpa only [mS] using m
      cases e with
      | var i =>
        obtain ⟨x, p, rfl, hv⟩ := g.toGd.var (show mN N sc i e' = true by simpa only [mE] using m')
        exact st_retV hv
      | _ => exact st_ret ((s_ex hCX _).1 g.toGd m')
  | _ => exact (noT m).elim
theorem s_retN : SS Y T CX k n G .retN := @fun E N sc X st' g m => by
  cases st' with
  | Return v pos =>
    cases v with
    | none => exact st_retN
    | some _ => exact (noT m).elim
  | _ => exact (noT m).elim
theorem s_ite (hCX : ∀ (l : List Env) (H : Hp) (s : Shared) (e : Value) (s' : Shared), CX l H s (fun _ _ _ => False) e s' → False) {c : Ex} {a b : Sts} (ha : SSs Y T CX k n G a) (hb : SSs Y T CX k n G b) : SS Y T CX k n G (.ite c a b) := @fun E N sc X st' g m => by
  cases st' with
  | If c' a' b' pos =>
    simp only [mS, Bool.and_eq_true] at m
    exact st_ite ((s_ex hCX c).2.1 g.toGd m.1.1) (ha g m.1.2) (hb g m.2)
  | _ => exact (noT m).elim
theorem s_whil (hCX : ∀ (l : List Env) (H : Hp) (s : Shared) (e : Value) (s' : Shared), CX l H s (fun _ _ _ => False) e s' → False) {c : Ex} {b : Sts} (hb : SSs Y T CX k n G b) : SS Y T CX k n G (.whil c b) := @fun E N sc X st' g m => by
  cases st' with
  | While c' b' oe pos =>
    cases oe with
    | nil =>
      simp only [mS, Bool.and_eq_true] at m
      exact st_whil n g.own ((s_ex hCX c).2.1 g.toGd m.1) (hb g m.2)
    | cons _ _ => exact (noT m).elim
  | _ => exact (noT m).elim
theorem s_for (hCX : ∀ (l : List Env) (H : Hp) (s : Shared) (e : Value) (s' : Shared), CX l H s (fun _ _ _ => False) e s' → False) {t : Tg} {it : It} {b : Sts} (hb : SSs Y T CX k n G b) : SS Y T CX k n G (.for_ t it b) := @fun E N sc X st' g m => by
  cases st' with
  | For tg it' b' oe pos =>
    cases oe with
    | nil =>
      simp only [mS, Bool.and_eq_true] at m
      obtain ⟨⟨m1, m2⟩, m3⟩ := m
      obtain ⟨i1, i2⟩ := s_it (Y := Y) (T := T) (CX := CX) (k := k) (G := G) hCX it g.toGd m1
      exact st_for g.own g.calm i1 (s_tg g.toGd (fun x _ => g.fnT x) t tg m2) (hb g m3) i2
    | cons _ _ => exact (noT m).elim
  | _ => exact (noT m).elim
theorem s_raise {c : Nat} {e : Ex} : SS Y T CX k n G (.raise c e) := @fun E N sc X st' g m => by
  cases st' <;> exact (noT m).elim
theorem gl_nm {sc : Scope} {x : Str} {e : Expr} (h : mGl sc x e = true) : ∃ p, e = .Name x p ∧ sc.names.lookup x = some .globalImplicit := by
  cases e with
  | Name y p =>
    simp only [mGl, Bool.and_eq_true, decide_eq_true_eq] at h
    obtain ⟨⟨⟨h1, h2⟩, _⟩, _⟩ := h
    subst h1
    exact ⟨p, rfl, glB_eq h2⟩
  | _ => cases h
theorem v_deckPut {N : List Str} {sc : Scope} {i : Nat} {w : Bool} {e : Ex} {st' : Stmt} (m : mS T N sc (.deckPut i w e) st' = true) : ∃ o y k1 p2 tp b' pos, st' = .Assign [.Subscript o (.Constant (.str y) k1 p2) tp] b' pos ∧ mN N sc i o = true ∧ (y = if w then T.dD else T.dM) ∧ mE T N sc e b' = true ∧ noComp b' = true := by
  cases st' with
  | Assign ts e' pos =>
    match ts, m with
    | [.Subscript o (.Constant (.str y) k1 p2) tp], m =>
      simp only [mS, Bool.and_eq_true, decide_eq_true_eq] at m
      exact ⟨o, y, k1, p2, tp, e', pos, rfl, m.1.1.1, m.1.1.2, m.1.2, m.2⟩
  | _ => exact (noT m).elim
theorem s_deckPut (hCX : ∀ (l : List Env) (H : Hp) (s : Shared) (e : Value) (s' : Shared), CX l H s (fun _ _ _ => False) e s' → False) {i : Nat} {w : Bool} {e : Ex} : SS Y T CX k n G (.deckPut i w e) := @fun E N sc X st' g m => by
  obtain ⟨o, y, k1, p2, tp, b', pos, rfl, m1, m2, m3, m4⟩ := v_deckPut m
  obtain ⟨x, p, rfl, hv⟩ := g.toGd.var m1
  exact st_deckPut g.toGd.keys (by have := g.toGd.units; omega) hv m2 ((s_ex hCX e).1 g.toGd m3) (swF_of m4)
theorem Gd.vars {E : XK} {N : List Str} {sc : Scope} {X : Cx} (g : Gd Y E T CX k G N sc X) {i : Nat} {x : Str} {p : Pos} (h : mN N sc i (.Name x p) = true) : ∀ q, PE X (.Name x q) (tVar i) := fun q => by
  obtain ⟨x', p', e, hv⟩ := g.var (e := .Name x q) h
  exact hv
theorem mN_nm {N : List Str} {sc : Scope} {i : Nat} {e : Expr} (h : mN N sc i e = true) : ∃ x p, e = .Name x p ∧ N[i]? = some x := by
  cases e with
  | Name x p =>
    simp only [mN, Bool.and_eq_true, decide_eq_true_eq] at h
    exact ⟨x, p, rfl, h.1.1.1⟩
  | _ => cases h
theorem mN_same {N : List Str} {sc : Scope} {i : Nat} {e : Expr} {x : Str} (h : mN N sc i e = true) (hx : N[i]? = some x) : ∃ p, e = .Name x p := by
  obtain ⟨y, p, e1, e2⟩ := mN_nm h
  rw [hx] at e2
  cases e2
  exact ⟨p, e1⟩
theorem s_deckPop {i j mi : Nat} {a b : Sts} (ha : SSs Y T CX k n G a) (hb : SSs Y T CX k n G b) : SS Y T CX k n G (.deckPop i j mi a b) := @fun E N sc X st' g m => by
  have m' : (match popX T N sc i j mi st' with
    | some r => mSs T N sc a r.1 && mSs T N sc b r.2
    | none => false) = true := m
  cases hx : popX T N sc i j mi st' with
  | none => rw [hx] at m'; cases m'
  | some r =>
    obtain ⟨ra, rb⟩ := r
    rw [hx] at m'
    obtain ⟨ma, mb⟩ := Bool.and_eq_true_iff.mp m'
    obtain ⟨c, s1, s2, pos, rfl, hc, h1, hij, hmj, h2⟩ := v_popX hx
    obtain ⟨o1, k1, p2, p3, p4, p5, rfl, ho1⟩ := v_popC hc
    obtain ⟨xj, p6, o2, k2, p8, p9, apos, cpos, p10, rfl, hj, hl, ho2, hl1⟩ := v_popA h1
    obtain ⟨c1, k3, p12, k4, p13, p14, p15, o3, k5, q2, q3, apos2, c2, gg, k6, q6, mo, q8, q9, cpos2, q10, q11, rfl, hc1, ho3, hl2, hc2, hgm, hmo⟩ := v_popB h2
    obtain ⟨x, p1, rfl, hNi⟩ := mN_nm ho1
    obtain ⟨p7, rfl⟩ := mN_same ho2 hNi
    obtain ⟨q1, rfl⟩ := mN_same ho3 hNi
    obtain ⟨_, _, ej, hNj⟩ := mN_nm hj
    cases ej
    obtain ⟨p11, rfl⟩ := mN_same hc1 hNj
    obtain ⟨q4, rfl⟩ := mN_same hc2 hNj
    obtain ⟨xm, q7, rfl, hNm⟩ := mN_nm hmo
    obtain ⟨q5, rfl, hgl⟩ := gl_nm hgm
    have hb2 := bi_glob g.toGd (x := "max") (by decide +kernel) hgl
    exact st_deckPop g.toGd.keys g.toGd.units g.toGd.calm (by rw [g.hN]; exact g.nd) (by rw [g.hN]; exact hNj) (by rw [g.hsc]; exact lcB_of hl) (.inl (g.fnT xj)) hb2.1 hb2.2 hij hmj (g.toGd.vars ho1) (g.toGd.vars hj) (g.toGd.vars hmo) (ha g ma) (hb g mb) hl1 hl2
theorem s_never : SS Y T CX k n G .never := @fun E N sc X st' g m => st_never
theorem s_pass : SS Y T CX k n G .pass := @fun E N sc X st' g m => by
  cases st' with
  | Pass pos => exact st_pass
  | _ => exact (noT m).elim
theorem s_brk : SS Y T CX k n G .brk := @fun E N sc X st' g m => by
  cases st' with
  | Break pos => exact st_brk
  | _ => exact (noT m).elim
theorem s_cont : SS Y T CX k n G .cont := @fun E N sc X st' g m => by
  cases st' with
  | Continue pos => exact st_cont
  | _ => exact (noT m).elim
theorem b_nil : SSs Y T CX k n G .nil := @fun E N sc X st' g m => by
  cases st' with
  | nil => exact st_nil
  | cons _ _ => exact (noT m).elim
theorem b_cons {s : St} {r : Sts} (hs : SS Y T CX k n G s) (hr : SSs Y T CX k n G r) : SSs Y T CX k n G (.cons s r) := @fun E N sc X st' g m => by
  cases st' with
  | nil => exact (noT m).elim
  | cons s' r' =>
    simp only [mSs, Bool.and_eq_true] at m
    exact st_cons (hs g m.1) (hr g m.2)
variable (hCX : ∀ (l : List Env) (H : Hp) (s : Shared) (e : Value) (s' : Shared), CX l H s (fun _ _ _ => False) e s' → False)
include hCX
mutual
theorem s_st : ∀ st : St, SS Y T CX k n G st
  | .asg i e => s_asg hCX
  | .asgT t e => s_asgT hCX
  | .par is es => s_par hCX
  | .aug i o e => s_aug hCX
  | .setIx i a b => s_setIx hCX
  | .append i e => s_append hCX
  | .extend i e => s_extend hCX
  | .expr e => s_expr hCX
  | .ret e => s_ret hCX
  | .retN => s_retN
  | .ite c a b => s_ite hCX (s_sts a) (s_sts b)
  | .whil c b => s_whil hCX (s_sts b)
  | .for_ t it b => s_for hCX (s_sts b)
  | .raise c e => s_raise
  | .never => s_never
  | .deckPut i w e => s_deckPut hCX
  | .deckPop i j mi a b => s_deckPop (s_sts a) (s_sts b)
  | .pass => s_pass
  | .brk => s_brk
  | .cont => s_cont
theorem s_sts : ∀ st : Sts, SSs Y T CX k n G st
  | .nil => b_nil
  | .cons s r => b_cons (s_st s) (s_sts r)
end
end
end TP
end

section
set_option linter.all false
set_option maxRecDepth 100000
set_option maxHeartbeats 2000000
/-! Whole programs: each def does as its tree says. -/
namespace TP
open PySem L2 PySem.Spec PyProof.Rows
/-- a def's rule, where no guard stands around -/
theorem fnG_of {CX : CXT} {P : Program} {w : World} {K : Frag} {mg : Str → Option Value} {base : Heap} {k : Nat} {f : Addr} {name qual : Str} {params : Arguments} {body : List Stmt} {scope : Scope} {fd : FuncData} {N ps : List Str} {sp : Sp}
    (F : FunD K name qual params body scope [] [] f fd) (S : FnScope N ps scope) (len : ∀ vs H Q E, sp vs H Q E → vs.length = ps.length)
    (hbody : ∀ (cdv : Value) (A : Around) (outer : List Env) (s : Shared) (H : Hp) (vs : List V) (Q : VK) (E : XK), Room k (A.deeper (envOfC qual scope s.heap.objs.size f cdv)) → A.guards = some [] → sp vs H Q E →
      ∃ t, PSs (cxOf CX P w K mg base N qual scope f cdv A outer s H E) body t ∧ t { nx := fun _ H' => Q .non H', rt := Q } (start N vs) H) : FnG P w K mg base CX (k + 1) f fd ps sp := by
  obtain ⟨oc, od, dV, kV, doc, pm, an, cdv, ct, osl, rfl, lk, hcd, _, _⟩ := F.ex
  refine ⟨len, fun A outer s H args us vs Q E hr hg e0 hb r hsp => ?_⟩
  have hl := len _ _ _ _ hsp
  have KX : K.In s.heap := e0.mod.kin.keeps fun b o e => (e0.bs b o e).1
  have lim : s.heap.NoLimit := e0.mod.nolimit.keeps fun b o e => (e0.bs b o e).1
  refine codeAny_call_function hr.depth (KX _ _ lk) rfl S.co S.gen rfl (PySem.W.codeRec_of KX hcd) (hb _ _ _ _ ?_)
  refine wpAny_newFunctionEnv_cells S.kind (fun ⟨n, v⟩ hy => ?_) fun env he s1 x => ?_
  · exact (S.par n (List.of_mem_zip hy).1).imp id fun q => ⟨q, PySem.W.cellsFrom_some _ _ _ (.inl q)⟩
  subst he
  refine ⟨lim.keeps x.toInCall.keep, codeAny_func ?_⟩
  obtain ⟨t, ht, hq⟩ := hbody cdv A outer s H vs Q E (hr.deeper _) hg hsp
  have I := inv_start (CX := CX) (mg := mg) (E := E) S hr.hd e0 hl r x
  refine wpAny_mono (ht.run [] s1 (start N vs) H _ I hq) (fun fl s' hs => ?_) fun e s' hs => hs
  match fl, hs with
  | .ret u, ⟨v, σ', H', J, rv, q⟩ => exact ⟨v, H', J.os, J.bare, J.base, J.hok, rv, q⟩
  | .next, ⟨σ', H', J, q⟩ => exact ⟨V.non, H', J.os, J.bare, J.base, J.hok, rfl, q⟩
  | .brk, ⟨_, _, _, q⟩ => exact q.elim
  | .cont, ⟨_, _, _, q⟩ => exact q.elim
/-! ### one def -/
theorem rel_start {C : Ct} {F H : Hp} {dk : List (Addr × Addr)} (w : Wd C F H dk) (m : Nat) : ∀ {vs : List V} {xs : List Vl}, ARL C.K F dk vs xs → Rel C F H dk (vs.map some ++ List.replicate m none) (xs.map some ++ List.replicate m none)
  | [], [], _ => by
    refine ⟨w, by simp, fun _ => [], fun i => ?_, fun i j a ha => by cases ha⟩
    have e : gt (([] : List Vl).map some ++ List.replicate m none) i = none := by
      show (List.replicate m (none : Option Vl)).getD i none = none
      rw [List.getD_eq_getElem?_getD, List.getElem?_replicate]
      split <;> rfl
    rw [e]
    exact .no _
  | v :: vs, x :: xs, h => by
    have ih := rel_start w m h.2
    cases x with
    | d x => exact ih.with_d h.1
    | own xs => exact (show False from h.1).elim
    | deck =>
      obtain ⟨a, b, e, hm⟩ := h.1
      subst e
      exact ih.with_sr0 (.deck hm)
    | scr ns =>
      obtain ⟨a, e, hm⟩ := h.1
      subst e
      exact ih.with_sr0 (.scr hm)
  | [], _ :: _, h => h.elim
  | _ :: _, [], h => h.elim
/-- what a def of the program must be, to be decided -/
def defB (T : Tab) (d : Def) (N ps : List Str) (params : Arguments) (scope : Scope) (body : List Stmt) : Bool :=
  params.posonlyargs.isEmpty && decide (params.args.map (·.arg) = ps) && params.vararg.isNone && params.kwonlyargs.isEmpty && params.kwarg.isNone && decide (ps.Nodup) &&
  (match scope.kind with | .function => true | _ => false) && !scope.isCoroutine && !scope.isGenerator && decide (N.Nodup) && decide (N.take ps.length = ps) && ps.all (fun x => locB scope x || celB scope x) && scope.names.all (fun y => match y.2 with | .free => false | _ => true) &&
  decide (N.length = d.ns) && decide (ps.length = d.np) && mSs T N scope d.body body
theorem defB_eq {T : Tab} {d : Def} {N ps : List Str} {params : Arguments} {scope : Scope} {body : List Stmt} (h : defB T d N ps params scope body = true) :
    FnScope N ps scope ∧ (∀ fd : FuncData, fd.params = params → fd.defaults = .none → PlainFd fd ps) ∧ N.length = d.ns ∧ ps.length = d.np ∧ mSs T N scope d.body body = true := by
  unfold defB at h
  simp only [Bool.and_eq_true, decide_eq_true_eq, List.isEmpty_iff, Option.isNone_iff_eq_none, Bool.not_eq_true', List.all_eq_true] at h
  obtain ⟨⟨⟨⟨⟨⟨⟨⟨⟨⟨⟨⟨⟨⟨⟨h1, h2⟩, h3⟩, h4⟩, h5⟩, h6⟩, h7⟩, h8⟩, h9⟩, h10⟩, h11⟩, h12⟩, h13⟩, h14⟩, h15⟩, h16⟩ := h
  have hk : scope.kind = .function := by
    revert h7
    cases scope.kind <;> intro h7 <;> first | rfl | cases h7
  refine ⟨⟨hk, h8, h9, h10, h11, fun x hx => ?_, fun y hy e => ?_⟩, fun fd e1 e2 => ⟨by rw [e1]; exact h1, by rw [e1]; exact h2, by rw [e1]; exact h3, by rw [e1]; exact h4, by rw [e1]; exact h5, e2, h6⟩, h14, h15, h16⟩
  · exact (Bool.or_eq_true_iff.mp (h12 x hx)).imp locB_eq celB_eq
  · have := h13 y hy
    rw [e] at this
    cases this
theorem cx_false {P : Program} {w : World} : ∀ (l : List Env) (H : Hp) (s : Shared) (e : Value) (s' : Shared), L2.CX P w l H s (fun _ _ _ => False) e s' → False := fun l H s e s' ⟨_, _, _, _, _, _, _, _, _, _, _, _, h⟩ => h
/-- what a run of a def leaves -/
theorem run_ends {n : Nat} {G : Nat → List Vl → M Vl} {d : Def} {xs : List Vl} {C : Ct} {Q : VK} (h : (run n G d xs).All (fun r => ∀ F' H' dk' v, Rel1 C F' H' dk' [] [] v r → Q v H') (RPost C)) :
    xs.length = d.np ∧ (execs n G d.body (xs.map some ++ List.replicate (d.ns - d.np) none)).All (QFl C { nx := fun _ H' => Q .non H', rt := Q }) (RPost C) := by
  unfold run at h
  by_cases hl : xs.length = d.np
  · rw [if_pos hl] at h
    refine ⟨hl, ((M.all_bind _).mp h).mono (fun fl hfl => ?_) fun _ _ z => z⟩
    match fl, hfl with
    | .nx s, h => exact fun F H dk σ r => h F H dk .non (r.with_d .non).only
    | .rt v, h => exact fun F H dk w r => h F H dk w r
    | .bk s, h => exact h.elim
    | .ct s, h => exact h.elim
  · rw [if_neg hl] at h
    exact h.elim
/-- one def, over the calls that it makes -/
theorem def_fn {Y : Fx} {T : Tab} {P : Program} {w : World} {K : Frag} {mg : Str → Option Value} {base : Heap} {k n : Nat} {G : Nat → List Vl → M Vl} {f : Addr} {name qual : Str} {params : Arguments} {body : List Stmt} {scope : Scope} {fd : FuncData} {N ps : List Str} {d : Def}
    (F : FunD K name qual params body scope [] [] f fd) (hB : defB T d N ps params scope body = true) (hK : K = Y.K)
    (hmgb : ∀ x ∈ biNames, mg x = none) (hcomb : T.comb = true → mg "comb" = some (.builtin "math.comb")) (hkeys : DkY Y T.dL T.dM T.dD) (hgl : ∀ x d, T.gl x = some d → ∃ v u, mg x = some u ∧ RelV v u ∧ ∀ F, Dv K F v d)
    (hfn : ∀ f, T.has f = true → ∃ fa fd, mg (T.nm f) = some (.ref fa) ∧ PySem.W.keepIn K (.ref fa) = true ∧ PlainFd fd (T.pr f) ∧ FnG P w K mg base (L2.CX P w) k fa fd (T.pr f) (spOf Y (T.pr f).length (G f))) :
    FnG P w K mg base (L2.CX P w) (k + 1) f fd ps (spOf Y ps.length (run n G d)) ∧ PlainFd fd ps := by
  obtain ⟨S, pf, hns, hnp, hm⟩ := defB_eq hB
  refine ⟨fnG_of F S spOf_len fun cdv A outer s H vs Q E hr hg ⟨C, F0, dk, xs, hY, hE, hw, har, hl, hM⟩ => ?_, ?_⟩
  · obtain ⟨e1, hM⟩ := run_ends hM
    have g : Gs Y E T (L2.CX P w) k G N scope (cxOf (L2.CX P w) P w K mg base N qual scope f cdv A outer s H E) := by
      refine ⟨⟨hK, rfl, S.nd, rfl, rfl, hg, hr, hmgb, hcomb, hkeys, hgl, hfn, ?_⟩, S.kind, fun _ => rfl, ?_⟩
      · exact L2.passes_call (L2.takes_of (E := E) rfl rfl rfl rfl) fun cls d σ H h => h
      · exact L2.passes_of rfl
    refine ⟨tS Y E (execs n G d.body), s_sts cx_false d.body g hm, C, F0, dk, xs.map some ++ List.replicate (d.ns - d.np) none, hY, hE, ?_, hM⟩
    have e2 : L2.start N vs = vs.map some ++ List.replicate (d.ns - d.np) none := by
      unfold L2.start
      rw [hns, har.length, e1]
    rw [e2]
    exact rel_start hw _ har
  · obtain ⟨oc, od, dV, kV, doc, pm, an, cdv, ct, osl, rfl, lk, hcd, hD, _⟩ := F.ex
    refine pf _ rfl ?_
    rcases hD with ⟨_, e⟩ | ⟨e, _⟩
    · exact e
    · exact absurd rfl e
/-- the program: its defs, its first things -/
structure Prg (Y : Fx) (T : Tab) (P : Nat → Option Def) (prim : Nat → List Vl → M Vl) (pr : Program) (w : World) (K : Frag) (mg : Str → Option Value) (base : Heap) : Prop where
  hK : K = Y.K
  mgb : ∀ x ∈ biNames, mg x = none
  comb : T.comb = true → mg "comb" = some (.builtin "math.comb")
  keys : DkY Y T.dL T.dM T.dD
  gl : ∀ x d, T.gl x = some d → ∃ v u, mg x = some u ∧ RelV v u ∧ ∀ F, Dv K F v d
  defs : ∀ f d, T.has f = true → P f = some d → ∃ fa fd qual params body scope N, mg (T.nm f) = some (.ref fa) ∧ FunD K (T.nm f) qual params body scope [] [] fa fd ∧ defB T d N (T.pr f) params scope body = true
  prims : ∀ f, T.has f = true → P f = none → ∃ fa fd, mg (T.nm f) = some (.ref fa) ∧ PySem.W.keepIn K (.ref fa) = true ∧ PlainFd fd (T.pr f) ∧ FnG pr w K mg base (L2.CX pr w) 1 fa fd (T.pr f) (spOf Y (T.pr f).length (prim f))
theorem prg_fn {Y : Fx} {T : Tab} {P : Nat → Option Def} {prim : Nat → List Vl → M Vl} {pr : Program} {w : World} {K : Frag} {mg : Str → Option Value} {base : Heap} (h : Prg Y T P prim pr w K mg base) (n : Nat) :
    ∀ (k : Nat) (f : Nat), T.has f = true → ∃ fa fd, mg (T.nm f) = some (.ref fa) ∧ PySem.W.keepIn K (.ref fa) = true ∧ PlainFd fd (T.pr f) ∧ FnG pr w K mg base (L2.CX pr w) k fa fd (T.pr f) (spOf Y (T.pr f).length (call P prim n k f))
  | 0, f, hf => by
    have zero : ∀ {fa : Addr} {fd : FuncData}, FnG pr w K mg base (L2.CX pr w) 0 fa fd (T.pr f) (spOf Y (T.pr f).length (call P prim n 0 f)) := fun {fa fd} =>
      ⟨spOf_len, fun A outer s H args us vs Q E _ _ _ _ _ ⟨C, F, dk, xs, _, _, _, _, _, z⟩ => z.elim⟩
    cases e : P f with
    | none =>
      obtain ⟨fa, fd, h1, h2, h3, _⟩ := h.prims f hf e
      exact ⟨fa, fd, h1, h2, h3, zero⟩
    | some d =>
      obtain ⟨fa, fd, qual, params, body, scope, N, h1, h2, h3⟩ := h.defs f d hf e
      obtain ⟨S, pf, _⟩ := defB_eq h3
      refine ⟨fa, fd, h1, h2.kp, ?_, zero⟩
      obtain ⟨oc, od, dV, kV, doc, pm, an, cdv, ct, osl, rfl, lk, hcd, hD, _⟩ := h2.ex
      refine pf _ rfl ?_
      rcases hD with ⟨_, e⟩ | ⟨e, _⟩
      · exact e
      · exact absurd rfl e
  | k + 1, f, hf => by
    cases e : P f with
    | none =>
      obtain ⟨fa, fd, h1, h2, h3, h4⟩ := h.prims f hf e
      refine ⟨fa, fd, h1, h2, h3, ?_⟩
      have e2 : call P prim n (k + 1) f = prim f := by
        funext vs
        show (match P f with | some d => run n (call P prim n k) d vs | none => prim f vs) = _
        rw [e]
      rw [e2]
      exact h4.mono (by omega)
    | some d =>
      obtain ⟨fa, fd, qual, params, body, scope, N, h1, h2, h3⟩ := h.defs f d hf e
      have e2 : call P prim n (k + 1) f = run n (call P prim n k) d := by
        funext vs
        show (match P f with | some d => run n (call P prim n k) d vs | none => prim f vs) = _
        rw [e]
      rw [e2]
      obtain ⟨q1, q2⟩ := def_fn (n := n) h2 h3 h.hK h.mgb h.comb h.keys h.gl (prg_fn h n k)
      exact ⟨fa, fd, h1, h2.kp, q2, q1⟩
end TP
end

section
set_option linter.all false
set_option maxRecDepth 100000
set_option maxHeartbeats 2000000
/-! A law's end: the script handed in, the law's def called; the module's constants. -/
namespace TP
open PySem PySem.Spec PyProof.Rows L2
/-! ### constants of the module -/
mutual
/-- the value is that data, in the written part -/
def conB (K : Frag) : D → Value → Bool
  | .none, .none => true
  | .bool a, .bool b => a == b
  | .int i, .int j _ => decide (i = j)
  | .str x, .str y _ => decide (x = y)
  | .tuple ds, .ref a => (match K.lookup a with
    | some ⟨.type c, _, .seq its _, _⟩ => decide (c = "tuple") && decide (its.size ≤ sizeLine) && conBs K ds its.toList
    | _ => false)
  | _, _ => false
def conBs (K : Frag) : List D → List Value → Bool
  | [], [] => true
  | d :: ds, v :: vs => conB K d v && conBs K ds vs
  | _, _ => false
end
mutual
theorem conB_ok {K : Frag} : ∀ (d : D) (u : Value), conB K d u = true → ∃ v, RelV v u ∧ ∀ F, Dv K F v d
  | .none, u, h => by
    cases u with
    | none => exact ⟨.non, rfl, fun F => .non⟩
    | _ => cases h
  | .bool b, u, h => by
    cases u with
    | bool c =>
      have e : b = c := by simpa [conB] using h
      subst e
      exact ⟨.bl b, rfl, fun F => .bl b⟩
    | _ => cases h
  | .int i, u, h => by
    cases u with
    | int j t =>
      have e : i = j := by simpa [conB] using h
      subst e
      exact ⟨.int i, ⟨t, rfl⟩, fun F => .int i⟩
    | _ => cases h
  | .str x, u, h => by
    cases u with
    | str y t =>
      have e : x = y := by simpa [conB] using h
      subst e
      exact ⟨.str x, ⟨t, rfl⟩, fun F => .str x⟩
    | _ => cases h
  | .tuple ds, u, h => by
    cases u with
    | ref a =>
      simp only [conB] at h
      cases q : K.lookup a with
      | none => rw [q] at h; cases h
      | some o =>
        obtain ⟨oc, od, dt, osl⟩ := o
        rw [q] at h
        cases oc with
        | type c =>
          cases dt with
          | seq its n =>
            simp only [Bool.and_eq_true, decide_eq_true_eq] at h
            obtain ⟨⟨h1, h2⟩, h3⟩ := h
            subst h1
            obtain ⟨vs, r, g⟩ := conBs_ok ds its.toList h3
            exact ⟨.ref a, rfl, fun F => .tup (.inr ⟨_, its, n, q, rfl, rfl, h2, r⟩) (g F)⟩
          | _ => cases h
        | _ => cases dt <;> cases h
    | _ => cases h
  | .list ds, u, h => by cases u <;> cases h
  | .dict ds, u, h => by cases u <;> cases h
theorem conBs_ok {K : Frag} : ∀ (ds : List D) (us : List Value), conBs K ds us = true → ∃ vs, Vals vs us ∧ ∀ F, DvL K F vs ds
  | [], [], _ => ⟨[], .nil, fun F => .nil⟩
  | [], _ :: _, h => by cases h
  | _ :: _, [], h => by cases h
  | d :: ds, u :: us, h => by
    have h' : conB K d u = true ∧ conBs K ds us = true := by simpa [conBs] using h
    obtain ⟨v, r, g⟩ := conB_ok d u h'.1
    obtain ⟨vs, rs, gs⟩ := conBs_ok ds us h'.2
    exact ⟨v :: vs, .cons r rs, fun F => .cons (g F) (gs F)⟩
end
/-- what the module's names hold besides defs -/
def exB (comb : Bool) (cs : List (Str × D)) (K : Frag) : Bool :=
  (!comb || decide (PySem.W.nsIn K mainGlobals "comb" = some (some (.builtin "math.comb")))) && cs.all fun c => match PySem.W.nsIn K mainGlobals c.1 with
    | some (some u) => conB K c.2 u
    | _ => false
def hookX (n : Nat) (fa : List He.Fa) (fn : List He.DefD) (ex : Frag → Bool) : PySem.W.Hook where
  α := He.AlD × Bool
  obs := fun s => (He.obsDG n fa fn s.heap.get?, ex (He.frG s.heap.get? (He.asD s.heap.get? n)))
  val := fun _ => (He.valD fn, true)
  says := fun _ h => ∃ K : Frag, K.In h ∧ He.SaysD fa fn K ∧ ex K = true
  of := fun _ _ e => ⟨_, He.frG_in, congrArg Prod.fst e, congrArg Prod.snd e⟩
  keeps := fun _ _ _ ⟨K, hK, c⟩ k => ⟨K, PySem.W.Frag.In.keeps hK k, c⟩
def obX (n : Nat) (fa : List He.Fa) (fn : List He.DefD) (ex : Frag → Bool) (g : Addr → Option Obj) : He.AlD × Bool := (He.obsDG n fa fn g, ex (He.frG g (He.asD g n)))
theorem obX_eq {n : Nat} {fa : List He.Fa} {fn : List He.DefD} {ex : Frag → Bool} {g : Addr → Option Obj} {s : Shared} (h : ∀ a, g a = s.heap.get? a) : obX n fa fn ex g = (hookX n fa fn ex).obs s := by
  have e : g = s.heap.get? := funext h
  rw [e] <;> rfl
section
variable {K : Frag} {h : Heap} {mg : Str → Option Value} {comb : Bool} {cs : List (Str × D)}
theorem exB_comb (X : K.In h) (G : h.Ns mainGlobals mg) (c : exB comb cs K = true) : comb = true → mg "comb" = some (.builtin "math.comb") := fun hc => by
  have c1 := (Bool.and_eq_true_iff.mp c).1
  rw [hc] at c1
  exact PySem.W.mg_of X G (by simpa using c1)
theorem exB_con (X : K.In h) (G : h.Ns mainGlobals mg) (c : exB comb cs K = true) : ∀ x d, cs.lookup x = some d → ∃ v u, mg x = some u ∧ RelV v u ∧ ∀ F, Dv K F v d := fun x d hx => by
  have c2 := List.all_eq_true.mp (Bool.and_eq_true_iff.mp c).2 (x, d) (PySem.mem_of_lookup hx)
  dsimp only at c2
  cases q : PySem.W.nsIn K mainGlobals x with
  | none => rw [q] at c2; cases c2
  | some o =>
    rw [q] at c2
    cases o with
    | none => cases c2
    | some u =>
      obtain ⟨v, r, g⟩ := conB_ok d u c2
      exact ⟨v, u, PySem.W.mg_of X G q, r, g⟩
end
/-! ### the law is called -/
theorem law_callG {P : Program} {w : World} {K : Frag} {mg mb : Str → Option Value} {CX : CXT} {k : Nat} {fa a : Addr} {fd : FuncData} {x : Str} {sp : Sp} {s₁ : Shared} {vs : List Value} {ns : List Int}
    (KX : K.In s₁.heap) (hns : s₁.heap.Ns mainGlobals mg) (hb : s₁.heap.Ns builtinsNs mb) (hbb : ∀ x : Str, x ≠ "__name__" → mb x = bootBuiltins x) (hlim : s₁.heap.NoLimit) (hg : s₁.gens = #[])
    (ha : s₁.heap.get? a = some { cls := .type "list", data := .seq vs.toArray }) (hi : IntsAre vs ns) (hl : ns.length ≤ sizeLine) (hr : Room k callerA)
    (F : ∀ base : Heap, K.In base → base.Ns mainGlobals mg → FnG P w K mg base CX k fa fd [x] sp) (hbind : ∀ (s : Shared) (u : Value), BindsTo s fd ⟨[u], []⟩ [(x, u)])
    (hsp : ∀ H : Hp, Only H → SqL K H a (ns.map V.int) → sp [.ref a] H (fun v _ => v = .bl true) fun _ _ _ => False)
    (hCX : ∀ H e s', CX [] H s₁ (fun _ _ _ => False) e s' → False) :
    codeAny (model P w) callerA (.call (.ref fa) ⟨[.ref a], []⟩) (fun r s' => r = .ok (.ret (.bool true)) ∧ OldK s₁.heap s'.heap ∧ s'.os = s₁.os ∧ AllBare s'.gens) s₁ := by
  have rv := vals_ints hi
  -- over an abstract heap that tracks at most the script
  have core : ∀ H : Hp, Only H → SqL K H a (ns.map V.int) → HOk P w H s₁.heap → (∀ b, H b ≠ none → b = a ∧ K.lookup a = none) →
      codeAny (model P w) callerA (.call (.ref fa) ⟨[.ref a], []⟩) (fun r s' => r = .ok (.ret (.bool true)) ∧ OldK s₁.heap s'.heap ∧ s'.os = s₁.os ∧ AllBare s'.gens) s₁ := by
    intro H hO hS hok hA
    have free : ∀ {b : Addr} {o : Obj}, s₁.heap.get? b = some o → (b = a → K.lookup a ≠ none ∨ ∃ es ep, o.data = .dict es ep) → H b = none := fun {b o} e d => by
      cases q : H b with
      | none => rfl
      | some u =>
        obtain ⟨e1, e2⟩ := hA b (by rw [q]; simp)
        rcases d e1 with z | ⟨es, ep, z⟩
        · exact absurd e2 z
        · rw [e1, ha] at e
          cases e
          cases z
    have nsK : ∀ {b : Addr} {m : Str → Option Value}, s₁.heap.Ns b m → (hidT s₁.heap H).Ns b m := fun {b m} ⟨o, es, ep, e, d, r⟩ => ⟨o, es, ep, hidT_get e (free e fun _ => .inr ⟨es, ep, d⟩), d, r⟩
    have hKb : K.In (hidT s₁.heap H) := fun b o e => hidT_get (KX b o e) (free (KX b o e) fun z => .inl (by rw [← z, e]; simp))
    have hM : Mod K mg (hidT s₁.heap H) := ⟨hKb, nsK hns, ⟨mb, nsK hb, hbb⟩, let ⟨mc, h1, h2⟩ := hlim; ⟨mc, nsK h1, h2⟩⟩
    have e0 : Env0 P w K mg (hidT s₁.heap H) callerA [] s₁ H := ⟨rfl, hM, fun b o e => of_hidT e, Nat.le_of_eq (hidT_size _ _), trivial, fun b hb => (by cases hb), hok, .of_eq hg⟩
    refine codeAny_mono ((F _ hKb (nsK hns)).run callerA [] s₁ H ⟨[.ref a], []⟩ [.ref a] [.ref a] _ _ hr rfl e0 (hbind s₁ (.ref a)) (.cons rfl .nil) (hsp H hO hS)) fun r s' h => ?_
    match r, h with
    | .error e, h => exact (hCX H e s' h).elim
    | .ok .next, h => exact h.elim
    | .ok .brk, h => exact h.elim
    | .ok .cont, h => exact h.elim
    | .ok (.ret u), ⟨v, H', os, bare, un, hok', r', q⟩ =>
      have q' : v = .bl true := q
      subst q'
      obtain rfl : u = Value.bool true := r'
      refine ⟨rfl, OldK.of_keep fun b o e => ?_, os, bare⟩
      rcases hO b with z | ⟨ob, xs, z⟩
      · exact un.keep b o e z (fun y => by cases y) (by simp)
      · obtain ⟨e1, _⟩ := hok b _ z
        obtain ⟨e2, _⟩ := hok' b _ (un.frzs b ob _ z)
        rw [e] at e1
        cases e1
        exact e2
  cases hk : K.lookup a with
  | some o =>
    have e := KX a o hk
    rw [ha] at e
    cases e
    exact core (fun _ => none) (fun _ => .inl rfl) (.inr ⟨_, vs.toArray, _, hk, rfl, rfl, rfl, by rw [List.size_toArray, hi.length]; exact hl, by simpa using rv⟩) (fun b u z => by cases (show (none : Option HO) = some u from z)) fun b z => absurd rfl z
  | none =>
    refine core (fun b => if b = a then some (.frz { cls := .type "list", data := .seq vs.toArray } (.lst (ns.map V.int))) else none) (fun b => ?_) (.inl (.inr ⟨{ cls := .type "list", data := .seq vs.toArray }, if_pos rfl⟩)) (fun b u z => ?_) fun b z => ?_
    · by_cases hb : b = a
      · exact .inr ⟨_, _, if_pos hb⟩
      · exact .inl (if_neg hb)
    · by_cases hb : b = a
      · have z' := (if_pos hb).symm.trans z
        cases z'
        subst hb
        exact ⟨ha, by rw [List.length_map]; exact hl, vs, _, rv, ha⟩
      · have z' := (if_neg hb).symm.trans z
        cases z'
    · by_cases hb : b = a
      · exact ⟨hb, hk⟩
      · exact absurd (if_neg hb) z
theorem walk_ofG {l : PySem.W.OpenLaw} {n k : Nat} {q : Program} {loose : List Str} {XP : (Str → Option Value) → Heap → Prop} {YP : World → Heap → Prop} {d : DefRec} {CX : World → CXT} {x : Str}
    (hn : l.most = some n) (hn2 : n ≤ sizeLine) (hdf : d.params.defaults = []) (hr : Room k callerA)
    (F : ∀ (w : World) (mg : Str → Option Value) (fa : Addr) (h : Heap), YP w h → h.Ns mainGlobals mg → mg d.name = some (.ref fa) →
      ∃ (K : Frag) (fd : FuncData) (sp : Sp), K.In h ∧ (∀ (s : Shared) (u : Value), BindsTo s fd ⟨[u], []⟩ [(x, u)]) ∧
        (∀ (H : Hp) (a : Addr) (ns : List Int), ns.length ≤ n → Only H → SqL K H a (ns.map V.int) → sp [.ref a] H (fun v _ => v = .bl true) fun _ _ _ => False) ∧
        ∀ base : Heap, K.In base → base.Ns mainGlobals mg → FnG l.prog w K mg base (CX w) k fa fd [x] sp)
    (hCX : ∀ (w : World) (H : Hp) (s : Shared) (e : Value) (s' : Shared), CX w [] H s (fun _ _ _ => False) e s' → False) :
    PySem.W.WalkO q loose XP YP l.row.toRowW d [] (fun f vs => PySem.call f vs) := by
  refine Att.attach_call hn hdf fun w s₀ s₁ mg mb fa o pm cd doc a vs ns G Y ho hd hcd hmg hobj hints hlen hg => ?_
  obtain ⟨K, fd, sp, KX, hb, hsp, hF⟩ := F w mg fa _ Y G.T.g hmg
  exact law_callG KX G.T.g G.T.b G.T.builtins G.T.nolimit hg hobj hints (Nat.le_trans hlen hn2) hr hF hb (fun H hO hS => hsp H a ns hlen hO hS) fun H e s' => hCX w H s₁ e s'
/-- the law's promise from its tree -/
theorem law_sp {Y : Fx} {m : List Vl → M Vl} {K : Frag} (hK : K = Y.K) {H : Hp} {a : Addr} {ns : List Int} (hS : SqL K H a (ns.map V.int)) (hm : (m [.scr ns]).All (fun r => r = .d (.bool true)) fun _ _ => False) : spOf Y 1 m [.ref a] H (fun v _ => v = .bl true) fun _ _ _ => False := by
  refine ⟨{ Y with E := fun _ _ _ => False, B := fun _ => none, F0 := fun _ => none, d0 := [] }, H, [], [.scr ns], rfl, rfl, ⟨Same.refl H, fun b o e => (by cases (show (none : Option HO) = some o from e)), fun b o e => (by cases (show (none : Option HO) = some o from e)), fun p hp => (by cases hp), fun p hp => (by cases hp), fun b hb => (by cases hb), fun b hb => absurd rfl hb⟩, ⟨⟨a, rfl, by rw [← hK]; exact hS⟩, trivial⟩, rfl, hm.mono (fun r hr F' H' dk' v r1 => ?_) fun c x h => h.elim⟩
  subst hr
  obtain ⟨fp, h⟩ := r1.head
  cases h with
  | d h => cases h; rfl
/-- fuel as much as one likes -/
def spEx (sp : Nat → Sp) : Sp := fun vs H Q E => ∃ n, sp n vs H Q E
theorem FnG.ex {P : Program} {w : World} {K : Frag} {mg : Str → Option Value} {base : Heap} {CX : CXT} {k : Nat} {f : Addr} {fd : FuncData} {ps : List Str} {sp : Nat → Sp} (h : ∀ n, FnG P w K mg base CX k f fd ps (sp n)) : FnG P w K mg base CX k f fd ps (spEx sp) :=
  ⟨fun vs H Q E ⟨n, q⟩ => (h n).len vs H Q E q, fun A outer s H args us vs Q E hr hg he hb hv ⟨n, q⟩ => (h n).run A outer s H args us vs Q E hr hg he hb hv q⟩
end TP
end

section
set_option linter.all false
set_option maxRecDepth 100000
/-! Runs over trees, by simp. -/
namespace TP
abbrev G1 := Nat → List Vl → M Vl
section
variable {α β : Type} {G : G1} {s : S} {i j n k : Nat}
/-- a step and what goes on behind it: simp does not look into the latter (its type is named behind it) -/
inductive Tag {α β : Type} (f : α → M β) : Type
  | mk
def bd (m : M α) (f : α → M β) (_ : Tag f := .mk) : M β := m.bind f
@[simp] theorem bd_ret (a : α) (f : α → M β) (t : Tag f) : bd (.ret a) f t = f a := rfl
@[simp] theorem bd_stuck (f : α → M β) (t : Tag f) : bd .stuck f t = .stuck := rfl
@[simp] theorem bd_raise (c : Nat) (x : D) (f : α → M β) (t : Tag f) : bd (.raise c x) f t = .raise c x := rfl
@[simp] theorem bd_any (k : Int → M α) (f : α → M β) (t : Tag f) : bd (.any k) f t = .any fun r => bd (k r) f t := rfl
@[simp] theorem bd_bd {γ : Type} (m : M α) (f : α → M β) (t : Tag f) (g : β → M γ) (u : Tag g) : bd (bd m f t) g u = bd m fun a => bd (f a) g := M.bind_assoc ..
def whileE (G : G1) (n : Nat) (c : Ex) (b : Sts) (m : Nat) (s : S) : M Fl := whileM (fun s => tst (oper (isBor c) (ev G c) s)) (execs n G b) m s
def forE (G : G1) (n : Nat) (t : Tg) (b : Sts) (xs : List D) (s : S) : M Fl := forM (TP.asg t) (execs n G b) xs s
def compE (G : G1) (own : List Nat) (t : Tg) (cs : Exs) (e : Ex) (xs : List D) (s : S) : M (List D × S) := (compM own (asg t) (evC G cs) (ev G e) xs s []).nox
theorem call_s (P : Nat → Option Def) (prim : G1) (n k f : Nat) (vs : List Vl) (d : Def) (h : P f = some d) : call P prim n (k + 1) f vs = run n (call P prim n k) d vs := by
  show (match P f with | some d => run n (call P prim n k) d vs | none => prim f vs) = _
  rw [h]
@[simp] theorem gt_z (o : Option Vl) : gt (o :: s) 0 = o := rfl
@[simp] theorem gt_s (o : Option Vl) : gt (o :: s) (i + 1) = gt s i := rfl
@[simp] theorem frz_d (x : D) : Vl.frz (.d x) = some x := rfl
@[simp] theorem frz_own (x : List D) : Vl.frz (.own x) = some (.list x) := rfl
@[simp] theorem arg_d (x : D) : Vl.arg (.d x) = .d x := rfl
@[simp] theorem arg_own (x : List D) : Vl.arg (.own x) = .d (.list x) := rfl
@[simp] theorem arg_deck : Vl.arg .deck = .deck := rfl
@[simp] theorem arg_scr (ns : List Int) : Vl.arg (.scr ns) = .scr ns := rfl
@[simp] theorem isBor_bor : isBor (.bor i) = some i := rfl
@[simp] theorem isBor_var : isBor (.var i) = none := rfl
@[simp] theorem isBor_int (x : Int) : isBor (.int x) = none := rfl
@[simp] theorem isBor_str (x : PySem.Str) : isBor (.str x) = none := rfl
@[simp] theorem isBor_bl (x : Bool) : isBor (.bl x) = none := rfl
@[simp] theorem isBor_non : isBor .non = none := rfl
@[simp] theorem isBor_glob (x : PySem.Str) (v : D) : isBor (.glob x v) = none := rfl
@[simp] theorem isBor_bin (o : Op) (a b : Ex) : isBor (.bin o a b) = none := rfl
@[simp] theorem isBor_neg (a : Ex) : isBor (.neg a) = none := rfl
@[simp] theorem isBor_not (a : Ex) : isBor (.not a) = none := rfl
@[simp] theorem isBor_and (a b : Ex) : isBor (.and a b) = none := rfl
@[simp] theorem isBor_or (a b : Ex) : isBor (.or a b) = none := rfl
@[simp] theorem isBor_cmp (o : Cm) (a b : Ex) : isBor (.cmp o a b) = none := rfl
@[simp] theorem isBor_chain (o u : Cm) (a b c : Ex) : isBor (.chain o u a b c) = none := rfl
@[simp] theorem isBor_ife (a b c : Ex) : isBor (.ife a b c) = none := rfl
@[simp] theorem isBor_tup (a : Exs) : isBor (.tup a) = none := rfl
@[simp] theorem isBor_lst (a : Exs) : isBor (.lst a) = none := rfl
@[simp] theorem isBor_idx (a b : Ex) : isBor (.idx a b) = none := rfl
@[simp] theorem isBor_slc (a : Ex) (b c : Exs) : isBor (.slc a b c) = none := rfl
@[simp] theorem isBor_rev (a : Ex) : isBor (.rev a) = none := rfl
@[simp] theorem isBor_call (f : Nat) (a : Exs) : isBor (.call f a) = none := rfl
@[simp] theorem isBor_callK (f : Nat) (a b : Exs) (ks : List Nat) : isBor (.callK f a b ks) = none := rfl
@[simp] theorem isBor_bi (b : Bi) (a : Exs) : isBor (.bi b a) = none := rfl
@[simp] theorem isBor_isin (a : Ex) (ts : List Ty) : isBor (.isin a ts) = none := rfl
@[simp] theorem isBor_pop : isBor (.pop i) = none := rfl
@[simp] theorem isBor_popAt (e : Ex) : isBor (.popAt i e) = none := rfl
@[simp] theorem isBor_comp (e : Ex) (t : Tg) (it : It) (cs : Exs) (own : List Nat) : isBor (.comp e t it cs own) = none := rfl
@[simp] theorem isBor_dict0 : isBor .dict0 = none := rfl
@[simp] theorem isBor_deckGet (w : Bool) : isBor (.deckGet i w) = none := rfl
@[simp] theorem isVar_bor : isVar (.bor i) = none := rfl
@[simp] theorem isVar_var : isVar (.var i) = some i := rfl
@[simp] theorem isVar_int (x : Int) : isVar (.int x) = none := rfl
@[simp] theorem isVar_str (x : PySem.Str) : isVar (.str x) = none := rfl
@[simp] theorem isVar_bl (x : Bool) : isVar (.bl x) = none := rfl
@[simp] theorem isVar_non : isVar .non = none := rfl
@[simp] theorem isVar_glob (x : PySem.Str) (v : D) : isVar (.glob x v) = none := rfl
@[simp] theorem isVar_bin (o : Op) (a b : Ex) : isVar (.bin o a b) = none := rfl
@[simp] theorem isVar_neg (a : Ex) : isVar (.neg a) = none := rfl
@[simp] theorem isVar_not (a : Ex) : isVar (.not a) = none := rfl
@[simp] theorem isVar_and (a b : Ex) : isVar (.and a b) = none := rfl
@[simp] theorem isVar_or (a b : Ex) : isVar (.or a b) = none := rfl
@[simp] theorem isVar_cmp (o : Cm) (a b : Ex) : isVar (.cmp o a b) = none := rfl
@[simp] theorem isVar_chain (o u : Cm) (a b c : Ex) : isVar (.chain o u a b c) = none := rfl
@[simp] theorem isVar_ife (a b c : Ex) : isVar (.ife a b c) = none := rfl
@[simp] theorem isVar_tup (a : Exs) : isVar (.tup a) = none := rfl
@[simp] theorem isVar_lst (a : Exs) : isVar (.lst a) = none := rfl
@[simp] theorem isVar_idx (a b : Ex) : isVar (.idx a b) = none := rfl
@[simp] theorem isVar_slc (a : Ex) (b c : Exs) : isVar (.slc a b c) = none := rfl
@[simp] theorem isVar_rev (a : Ex) : isVar (.rev a) = none := rfl
@[simp] theorem isVar_call (f : Nat) (a : Exs) : isVar (.call f a) = none := rfl
@[simp] theorem isVar_callK (f : Nat) (a b : Exs) (ks : List Nat) : isVar (.callK f a b ks) = none := rfl
@[simp] theorem isVar_bi (b : Bi) (a : Exs) : isVar (.bi b a) = none := rfl
@[simp] theorem isVar_isin (a : Ex) (ts : List Ty) : isVar (.isin a ts) = none := rfl
@[simp] theorem isVar_pop : isVar (.pop i) = none := rfl
@[simp] theorem isVar_popAt (e : Ex) : isVar (.popAt i e) = none := rfl
@[simp] theorem isVar_comp (e : Ex) (t : Tg) (it : It) (cs : Exs) (own : List Nat) : isVar (.comp e t it cs own) = none := rfl
@[simp] theorem isVar_dict0 : isVar .dict0 = none := rfl
@[simp] theorem isVar_deckGet (w : Bool) : isVar (.deckGet i w) = none := rfl
@[simp] theorem isVar_deckNew (e : Ex) (m : Nat) (d : Int) : isVar (.deckNew e m d) = none := rfl
@[simp] theorem isBor_deckNew (e : Ex) (m : Nat) (d : Int) : isBor (.deckNew e m d) = none := rfl
@[simp] theorem isBor_scrCut (n : Nat) : isBor (.scrCut i n) = none := rfl
@[simp] theorem isVar_scrCut (n : Nat) : isVar (.scrCut i n) = none := rfl
@[simp] theorem res_dt (x : D) : res s (.dt x) = some x := rfl
@[simp] theorem res_sl : res s (.sl i) = (gt s i).bind Vl.frz := rfl
@[simp] theorem oper_n (f : S → M (Vl × S)) : oper none f s = bd (fz (f s)) fun r => .ret (.dt r.1, r.2) := rfl
@[simp] theorem oper_s (f : S → M (Vl × S)) : oper (some i) f s = bd (M.ofOpt ((gt s i).bind Vl.frz)) fun _ => .ret (.sl i, s) := rfl
@[simp] theorem fzS_ret (v : Vl) : fz (.ret (v, s)) = bd (M.ofOpt v.frz) fun x => .ret (x, s) := rfl
@[simp] theorem fz_bd (m : M α) (f : α → M (Vl × S)) (t : Tag f) : fz (bd m f t) = bd m fun a => fz (f a) := M.bind_assoc ..
@[simp] theorem fz_any (k : Int → M (Vl × S)) : fz (.any k) = .any fun r => fz (k r) := rfl
@[simp] theorem fz_stuck : fz .stuck = .stuck := rfl
@[simp] theorem tst_ret (o : Opr) : tst (.ret (o, s)) = bd (M.ofOpt ((res s o).bind truth)) fun b => .ret (b, s) := rfl
@[simp] theorem tst_bd (m : M α) (f : α → M (Opr × S)) (t : Tag f) : tst (bd m f t) = bd m fun a => tst (f a) := M.bind_assoc ..
@[simp] theorem tst_any (k : Int → M (Opr × S)) : tst (.any k) = .any fun r => tst (k r) := rfl
@[simp] theorem tst_stuck : tst .stuck = .stuck := rfl
theorem bind_bind (m : M α) (f : α → M β) {γ : Type} (g : β → M γ) : (m.bind f).bind g = m.bind fun a => (f a).bind g := M.bind_assoc ..
@[simp] theorem truth_bool (b : Bool) : truth (.bool b) = some b := rfl
@[simp] theorem truth_int (b : Int) : truth (.int b) = some (b != 0) := rfl
@[simp] theorem truth_none : truth .none = some false := rfl
@[simp] theorem truth_list (b : List D) : truth (.list b) = some (!b.isEmpty) := rfl
@[simp] theorem truth_tuple (b : List D) : truth (.tuple b) = some (!b.isEmpty) := rfl
@[simp] theorem rdVar_d {x : D} : rdVar 0 (some (.d x) :: s) = .ret (.d x, some (.d x) :: s) := rfl
theorem rdVar_eq : rdVar i s = (match gt s i with
  | some (.d x) => .ret (.d x, s)
  | some (.own xs) => .ret (.d (.list xs), s.set i (some (.d (.list xs))))
  | some .deck => .ret (.deck, s)
  | some (.scr ns) => .ret (.scr ns, s)
  | none => .stuck) := rfl
@[simp] theorem ev_var : ev G (.var i) s = rdVar i s := rfl
@[simp] theorem ev_int (x : Int) : ev G (.int x) s = .ret (.d (.int x), s) := rfl
@[simp] theorem ev_str (x : PySem.Str) : ev G (.str x) s = .ret (.d (.str x), s) := rfl
@[simp] theorem ev_bl (x : Bool) : ev G (.bl x) s = .ret (.d (.bool x), s) := rfl
@[simp] theorem ev_non : ev G .non s = .ret (.d .none, s) := rfl
@[simp] theorem ev_dict0 : ev G .dict0 s = .ret (.d (.dict []), s) := rfl
@[simp] theorem ev_glob (x : PySem.Str) (v : D) : ev G (.glob x v) s = .ret (.d v, s) := rfl
@[simp] theorem ev_bin (o : Op) (a b : Ex) : ev G (.bin o a b) s = bd (oper (isBor a) (ev G a) s) fun r => bd (oper (isBor b) (ev G b) r.2) fun q => bd (M.ofOpt ((res q.2 r.1).bind fun x => (res q.2 q.1).bind fun y => binD o x y)) fun v => .ret (v, q.2) := rfl
@[simp] theorem ev_neg (a : Ex) : ev G (.neg a) s = bd (oper (isBor a) (ev G a) s) fun r => match res r.2 r.1 with
    | some (.int i) => .ret (.d (.int (-i)), r.2)
    | _ => .stuck := rfl
@[simp] theorem ev_not (a : Ex) : ev G (.not a) s = bd (tst (oper (isBor a) (ev G a) s)) fun r => .ret (.d (.bool (!r.1)), r.2) := rfl
@[simp] theorem ev_and (a b : Ex) : ev G (.and a b) s = bd (fz (ev G a s)) fun r => bd (M.ofOpt (truth r.1)) fun t => match t with
    | true => ev G b r.2
    | false => .ret (.d r.1, r.2) := rfl
@[simp] theorem ev_or (a b : Ex) : ev G (.or a b) s = bd (fz (ev G a s)) fun r => bd (M.ofOpt (truth r.1)) fun t => match t with
    | true => .ret (.d r.1, r.2)
    | false => ev G b r.2 := rfl
@[simp] theorem ev_cmp (o : Cm) (a b : Ex) : ev G (.cmp o a b) s = bd (oper (isBor a) (ev G a) s) fun r => bd (oper (isBor b) (ev G b) r.2) fun q => bd (M.ofOpt ((res q.2 r.1).bind fun x => (res q.2 q.1).bind fun y => cmpD o x y)) fun t => .ret (.d (.bool t), q.2) := rfl
@[simp] theorem ev_chain (o u : Cm) (a b c : Ex) : ev G (.chain o u a b c) s = bd (oper (isBor a) (ev G a) s) fun r => bd (oper (isBor b) (ev G b) r.2) fun q => bd (M.ofOpt ((res q.2 r.1).bind fun x => (res q.2 q.1).bind fun y => cmpD o x y)) fun t => match t with
    | true => bd (oper (isBor c) (ev G c) q.2) fun p => bd (M.ofOpt ((res p.2 q.1).bind fun y => (res p.2 p.1).bind fun z => cmpD u y z)) fun t => .ret (.d (.bool t), p.2)
    | false => .ret (.d (.bool false), q.2) := rfl
@[simp] theorem ev_ife (c a b : Ex) : ev G (.ife c a b) s = bd (tst (oper (isBor c) (ev G c) s)) fun r => match r.1 with
    | true => ev G a r.2
    | false => ev G b r.2 := rfl
@[simp] theorem ev_tup (es : Exs) : ev G (.tup es) s = bd (evD G es s) fun r => .ret (.d (.tuple r.1), r.2) := rfl
@[simp] theorem ev_lst (es : Exs) : ev G (.lst es) s = bd (evD G es s) fun r => .ret (.own r.1, r.2) := rfl
@[simp] theorem ev_idx (a i : Ex) : ev G (.idx a i) s = bd (oper (isBor a) (ev G a) s) fun r => bd (oper (isBor i) (ev G i) r.2) fun q => bd (M.ofOpt ((res q.2 r.1).bind fun x => (res q.2 q.1).bind fun y => ixD x y)) fun v => .ret (.d v, q.2) := rfl
@[simp] theorem ev_slc (a : Ex) (lo hi : Exs) : ev G (.slc a lo hi) s = bd (oper (isBor a) (ev G a) s) fun r => bd (evP G lo r.2) fun q => bd (evP G hi q.2) fun p => bd (M.ofOpt ((res p.2 r.1).bind fun x => slcD x q.1 p.1)) fun v => .ret (v, p.2) := rfl
@[simp] theorem ev_rev (a : Ex) : ev G (.rev a) s = bd (oper (isBor a) (ev G a) s) fun r => bd (M.ofOpt ((res r.2 r.1).bind revD)) fun v => .ret (v, r.2) := rfl
@[simp] theorem ev_call (f : Nat) (es : Exs) : ev G (.call f es) s = bd (evV G es s) fun r => bd (G f r.1) fun v => .ret (v, r.2) := rfl
@[simp] theorem ev_callK (f : Nat) (es kes : Exs) (ks : List Nat) : ev G (.callK f es kes ks) s = bd (evV G es s) fun r => bd (evV G kes r.2) fun q => bd (G f (order ks (r.1 ++ q.1))) fun v => .ret (v, q.2) := rfl
@[simp] theorem ev_bi (b : Bi) (es : Exs) : ev G (.bi b es) s = bd (evO G es s) fun r => bd (M.ofOpt ((resL r.2 r.1).bind (biD b))) fun v => .ret (v, r.2) := rfl
@[simp] theorem ev_isin (a : Ex) (ts : List Ty) : ev G (.isin a ts) s = bd (oper (isBor a) (ev G a) s) fun r => bd (M.ofOpt (res r.2 r.1)) fun x => .ret (.d (.bool (isinD ts x)), r.2) := rfl
@[simp] theorem ev_pop : ev G (.pop i) s = bd (M.ofOpt (isOwn (gt s i))) fun xs => bd (M.ofOpt xs.getLast?) fun x => .ret (.d x, s.set i (some (.own xs.dropLast))) := rfl
@[simp] theorem ev_popAt (e : Ex) : ev G (.popAt i e) s = bd (M.ofOpt (isOwn (gt s i))) fun _ => bd (fz (ev G e s)) fun r => bd (M.ofOpt (isOwn (gt r.2 i))) fun xs => bd (M.ofOpt (intD r.1)) fun k => bd (M.ofOpt (popIx xs.length k)) fun j => bd (M.ofOpt xs[j]?) fun x => .ret (.d x, r.2.set i (some (.own (xs.eraseIdx j)))) := rfl
@[simp] theorem ev_comp (e : Ex) (t : Tg) (it : It) (cs : Exs) (own : List Nat) : ev G (.comp e t it cs own) s = bd (evI G it s) fun r => bd (M.ofOpt (if r.1.length ≤ 16777216 then some () else none)) fun _ => bd (compE G own t cs e r.1 (wipeS own r.2)) fun q => .ret (.own q.1, backS own r.2 q.2) := rfl
@[simp] theorem ev_deckGet (w : Bool) : ev G (.deckGet i w) s = bd (M.ofOpt (isDeck (gt s i))) fun _ => .any fun r => .ret (.d (.int r), s) := rfl
@[simp] theorem ev_deckNew (e : Ex) (m : Nat) (d : Int) : ev G (.deckNew e m d) s = bd (ev G e s) fun r => bd (M.ofOpt (deckOk r.1)) fun _ => bd (M.ofOpt (intV (gt r.2 m))) fun _ => .ret (.deck, r.2) := rfl
@[simp] theorem ev_scrCut (n : Nat) : ev G (.scrCut i n) s = bd (M.ofOpt (isScr (gt s i))) fun ns => .ret (.own ((ns.take n).map .int), s) := rfl
@[simp] theorem evD_n : evD G .nil s = .ret ([], s) := rfl
@[simp] theorem evD_c (e : Ex) (es : Exs) : evD G (.cons e es) s = bd (fz (ev G e s)) fun r => bd (evD G es r.2) fun q => .ret (r.1 :: q.1, q.2) := rfl
@[simp] theorem evO_n : evO G .nil s = .ret ([], s) := rfl
@[simp] theorem evO_c (e : Ex) (es : Exs) : evO G (.cons e es) s = bd (oper (isBor e) (ev G e) s) fun r => bd (evO G es r.2) fun q => .ret (r.1 :: q.1, q.2) := rfl
@[simp] theorem evV_n : evV G .nil s = .ret ([], s) := rfl
@[simp] theorem evV_c (e : Ex) (es : Exs) : evV G (.cons e es) s = bd (ev G e s) fun r => bd (evV G es r.2) fun q => .ret (r.1.arg :: q.1, q.2) := rfl
@[simp] theorem evW_n : evW G .nil s = .ret ([], s) := rfl
@[simp] theorem evW_c (e : Ex) (es : Exs) : evW G (.cons e es) s = bd (ev G e s) fun r => bd (evW G es r.2) fun q => .ret (r.1 :: q.1, q.2) := rfl
@[simp] theorem evP_n : evP G .nil s = .ret (none, s) := rfl
@[simp] theorem evP_c (e : Ex) (es : Exs) : evP G (.cons e es) s = bd (fz (ev G e s)) fun r => bd (M.ofOpt (intD r.1)) fun i => .ret (some i, r.2) := rfl
@[simp] theorem evC_n : evC G .nil s = .ret (true, s) := rfl
@[simp] theorem evC_c (e : Ex) (es : Exs) : evC G (.cons e es) s = tst (oper (isBor e) (ev G e) s) := rfl
@[simp] theorem evI_seq (e : Ex) : evI G (.seq e) s = bd (fz (ev G e s)) fun r => bd (M.ofOpt (seqD r.1)) fun xs => .ret (xs, r.2) := rfl
@[simp] theorem evI_rng1 (a : Ex) : evI G (.rng1 a) s = bd (fz (ev G a s)) fun r => bd (M.ofOpt (rng1D r.1)) fun xs => .ret (xs, r.2) := rfl
@[simp] theorem evI_rng2 (a b : Ex) : evI G (.rng2 a b) s = bd (fz (ev G a s)) fun r => bd (fz (ev G b r.2)) fun q => bd (M.ofOpt (rng2D r.1 q.1)) fun xs => .ret (xs, q.2) := rfl
@[simp] theorem evI_rng3 (a b c : Ex) : evI G (.rng3 a b c) s = bd (fz (ev G a s)) fun r => bd (fz (ev G b r.2)) fun q => bd (fz (ev G c q.2)) fun p => bd (M.ofOpt (rng3D r.1 q.1 p.1)) fun xs => .ret (xs, p.2) := rfl
@[simp] theorem evI_zip (a b : Ex) : evI G (.zip a b) s = bd (fz (ev G a s)) fun r => bd (fz (ev G b r.2)) fun q => bd (M.ofOpt ((seqD r.1).bind fun xs => (seqD q.1).map fun ys => pairsD xs ys)) fun xs => .ret (xs, q.2) := rfl
@[simp] theorem evI_enum (a : Ex) : evI G (.enum a) s = bd (fz (ev G a s)) fun r => bd (M.ofOpt (seqD r.1)) fun xs => .ret (enumD xs, r.2) := rfl
@[simp] theorem resL_n : resL s [] = some [] := rfl
@[simp] theorem resL_c (o : Opr) (r : List Opr) : resL s (o :: r) = (res s o).bind fun x => (resL s r).map (x :: ·) := rfl
/-! ### statements -/
@[simp] theorem ex_asg (e : Ex) : exec n G (.asg i e) s = bd (ev G e s) fun r => .ret (.nx (r.2.set i (some r.1))) := rfl
@[simp] theorem ex_asgT (t : Tg) (e : Ex) : exec n G (.asgT t e) s = bd (fz (ev G e s)) fun r => bd (M.ofOpt (TP.asg t r.1 r.2)) fun s => .ret (.nx s) := rfl
@[simp] theorem ex_par (is : List Nat) (es : Exs) : exec n G (.par is es) s = bd (evW G es s) fun r => .ret (.nx (setAll is r.1 r.2)) := rfl
@[simp] theorem ex_aug (o : Op) (e : Ex) : exec n G (.aug i o e) s = bd (M.ofOpt (intV (gt s i))) fun x => bd (fz (ev G e s)) fun r => bd (M.ofOpt (intD r.1)) fun y => bd (M.ofOpt (augD o x y)) fun z => .ret (.nx (r.2.set i (some (.d (.int z))))) := rfl
@[simp] theorem ex_append (e : Ex) : exec n G (.append i e) s = bd (M.ofOpt (isOwn (gt s i))) fun _ => bd (fz (ev G e s)) fun r => bd (M.ofOpt (isOwn (gt r.2 i))) fun xs => bd (M.ofOpt (if xs.length < 16777216 then some () else none)) fun _ => .ret (.nx (r.2.set i (some (.own (xs ++ [r.1]))))) := rfl
@[simp] theorem ex_extend (e : Ex) : exec n G (.extend i e) s = bd (M.ofOpt (isOwn (gt s i))) fun _ => bd (fz (ev G e s)) fun r => bd (M.ofOpt (isOwn (gt r.2 i))) fun xs => bd (M.ofOpt (lstD r.1)) fun ys => bd (M.ofOpt (if xs.length + ys.length ≤ 16777216 then some () else none)) fun _ => .ret (.nx (r.2.set i (some (.own (xs ++ ys))))) := rfl
@[simp] theorem ex_setIx (a b : Ex) : exec n G (.setIx i a b) s = bd (fz (ev G b s)) fun r => bd (M.ofOpt (isOwn (gt r.2 i))) fun _ => bd (fz (ev G a r.2)) fun q => bd (M.ofOpt (isOwn (gt q.2 i))) fun xs => bd (M.ofOpt (intD q.1)) fun k => bd (M.ofOpt (L2.ixN xs.length k)) fun j => .ret (.nx (q.2.set i (some (.own (xs.set j r.1))))) := rfl
@[simp] theorem ex_expr (e : Ex) : exec n G (.expr e) s = bd (ev G e s) fun r => .ret (.nx r.2) := rfl
@[simp] theorem ex_ret (e : Ex) : exec n G (.ret e) s = match isVar e with
    | some i => bd (M.ofOpt (gt s i)) fun v => .ret (.rt v)
    | none => bd (ev G e s) fun r => .ret (.rt r.1) := rfl
@[simp] theorem ex_retN : exec n G .retN s = .ret (.rt (.d .none)) := rfl
@[simp] theorem ex_ite (c : Ex) (a b : Sts) : exec n G (.ite c a b) s = bd (tst (oper (isBor c) (ev G c) s)) fun r => match r.1 with
    | true => execs n G a r.2
    | false => execs n G b r.2 := rfl
@[simp] theorem ex_whil (c : Ex) (b : Sts) : exec n G (.whil c b) s = whileE G n c b n s := rfl
@[simp] theorem ex_for (t : Tg) (it : It) (b : Sts) : exec n G (.for_ t it b) s = bd (evI G it s) fun r => forE G n t b r.1 r.2 := rfl
@[simp] theorem ex_raise (c : Nat) (e : Ex) : exec n G (.raise c e) s = bd (fz (ev G e s)) fun r => .raise c r.1 := rfl
@[simp] theorem ex_deckPut (w : Bool) (e : Ex) : exec n G (.deckPut i w e) s = bd (fz (ev G e s)) fun r => bd (M.ofOpt (intD r.1)) fun _ => bd (M.ofOpt (isDeck (gt r.2 i))) fun _ => .ret (.nx r.2) := rfl
@[simp] theorem ex_deckPop (j m : Nat) (a b : Sts) : exec n G (.deckPop i j m a b) s = bd (M.ofOpt (isDeck (gt s i))) fun _ => bd (M.ofOpt (intV (gt s m))) fun many => bd (M.ofOpt (if j < s.length then some () else none)) fun _ => .any fun full => match decide (full = 0) with
    | true => .ret (.nx s)
    | false => .any fun c => match decide (10 ^ 18 ≤ c) with
      | true => bd (M.ofOpt (mxOk many)) fun _ => bd (execs n G a (s.set j (some (.d (.int c))))) fun f => match f with
        | .nx s => execs n G b s
        | f => .ret f
      | false => execs n G b (s.set j (some (.d (.int c)))) := rfl
@[simp] theorem ex_never : exec n G .never s = .stuck := rfl
@[simp] theorem ex_pass : exec n G .pass s = .ret (.nx s) := rfl
@[simp] theorem ex_brk : exec n G .brk s = .ret (.bk s) := rfl
@[simp] theorem ex_cont : exec n G .cont s = .ret (.ct s) := rfl
@[simp] theorem exs_n : execs n G .nil s = .ret (.nx s) := rfl
@[simp] theorem exs_c (st : St) (r : Sts) : execs n G (.cons st r) s = bd (exec n G st s) fun f => match f with
    | .nx s => execs n G r s
    | f => .ret f := rfl
theorem run_eq (d : Def) (vs : List Vl) (h : vs.length = d.np) : run n G d vs = bd (execs n G d.body (vs.map some ++ List.replicate (d.ns - d.np) none)) fun f => match f with
    | .nx _ => .ret (.d .none)
    | .rt v => .ret v
    | _ => .stuck := by
  unfold run
  rw [if_pos h]
  rfl
@[simp] theorem asg_nm (x : D) : asg (.nm i) x s = some (s.set i (some (.d x))) := rfl
@[simp] theorem asg_tp (ts : Tgs) (xs : List D) : asg (.tp ts) (.tuple xs) s = asgs ts xs s := rfl
@[simp] theorem asgs_n : asgs .nil [] s = some s := rfl
@[simp] theorem asgs_c (t : Tg) (ts : Tgs) (x : D) (xs : List D) : asgs (.cons t ts) (x :: xs) s = (asg t x s).bind fun s1 => asgs ts xs s1 := rfl
@[simp] theorem setAll_n : setAll [] [] s = s := rfl
@[simp] theorem setAll_c (is : List Nat) (v : Vl) (vs : List Vl) : setAll (i :: is) (v :: vs) s = setAll is vs (s.set i (some v)) := rfl
@[simp] theorem wipeS_n : wipeS [] s = s := rfl
@[simp] theorem wipeS_c (own : List Nat) : wipeS (i :: own) s = wipeS own (s.set i none) := rfl
@[simp] theorem backS_n (s0 : S) : backS [] s0 s = s := rfl
@[simp] theorem backS_c (own : List Nat) (s0 : S) : backS (i :: own) s0 s = backS own s0 (s.set i (keepD (gt s0 i))) := rfl
@[simp] theorem keepD_d (x : D) : keepD (some (.d x)) = some (.d x) := rfl
@[simp] theorem keepD_n : keepD none = none := rfl
@[simp] theorem keepD_o (x : List D) : keepD (some (.own x)) = none := rfl
@[simp] theorem isOwn_o (xs : List D) : isOwn (some (.own xs)) = some xs := rfl
@[simp] theorem intV_i (x : Int) : intV (some (.d (.int x))) = some x := rfl
@[simp] theorem intD_i (x : Int) : intD (.int x) = some x := rfl
@[simp] theorem lstD_l (x : List D) : lstD (.list x) = some x := rfl
@[simp] theorem seqD_l (x : List D) : seqD (.list x) = some x := rfl
@[simp] theorem seqD_t (x : List D) : seqD (.tuple x) = some x := rfl
@[simp] theorem isDeck_d : isDeck (some .deck) = some () := rfl
@[simp] theorem isScr_s (ns : List Int) : isScr (some (.scr ns)) = some ns := rfl
@[simp] theorem augD_add (x y : Int) : augD .add x y = some (x + y) := rfl
@[simp] theorem augD_sub (x y : Int) : augD .sub x y = some (x - y) := rfl
/-! ### all ends -/
/-- at every draw: each end is as P says, each exception as R says -/
structure Ends (m : M α) (P : α → Prop) (R : Nat → D → Prop) : Prop where
  h : m.All P R
/-- nothing is raised -/
abbrev Gives (m : M α) (P : α → Prop) : Prop := Ends m P fun _ _ => False
@[simp] theorem ends_ret (a : α) (P : α → Prop) (R : Nat → D → Prop) : Ends (.ret a) P R ↔ P a := ⟨fun h => h.h, fun h => ⟨h⟩⟩
@[simp] theorem ends_any (f : Int → M α) (P : α → Prop) (R : Nat → D → Prop) : Ends (.any f) P R ↔ ∀ r, Ends (f r) P R := ⟨fun h r => ⟨h.h r⟩, fun h => ⟨fun r => (h r).h⟩⟩
@[simp] theorem ends_raise (c : Nat) (x : D) (P : α → Prop) (R : Nat → D → Prop) : Ends (.raise c x : M α) P R ↔ R c x := ⟨fun h => h.h, fun h => ⟨h⟩⟩
theorem Ends.mono {m : M α} {P' P : α → Prop} {R' R : Nat → D → Prop} (h : Ends m P' R') (g : ∀ a, P' a → P a) (r : ∀ c x, R' c x → R c x) : Ends m P R := ⟨h.h.mono g r⟩
theorem Ends.bind {m : M α} {f : α → M β} {t : Tag f} {P' : α → Prop} {P : β → Prop} {R : Nat → D → Prop} (h : Ends m P' R) (g : ∀ a, P' a → Ends (f a) P R) : Ends (bd m f t) P R :=
  ⟨(M.all_bind m).mpr (h.h.mono (fun a ha => (g a ha).h) fun _ _ z => z)⟩
theorem Ends.step {m : M α} {f : α → M β} {t : Tag f} {P' : α → Prop} {P : β → Prop} {R : Nat → D → Prop} (h : Gives m P') (g : ∀ a, P' a → Ends (f a) P R) : Ends (bd m f t) P R :=
  (h.mono (fun _ h => h) fun _ _ z => z.elim).bind g
theorem Ends.imp {m : M α} {P' P : α → Prop} {R : Nat → D → Prop} (h : Gives m P') (g : ∀ a, P' a → P a) : Ends m P R := h.mono g fun _ _ z => z.elim
theorem Ends.eq {m : M α} {a : α} {P : α → Prop} {R : Nat → D → Prop} (h : m = .ret a) (g : P a) : Ends m P R := by rw [h]; exact ⟨g⟩
/-! ### operators -/
open PySem.PyData in
@[simp] theorem bin_addI (x y : Int) : binD .add (.int x) (.int y) = some (.d (.int (x + y))) := rfl
@[simp] theorem bin_subI (x y : Int) : binD .sub (.int x) (.int y) = some (.d (.int (x - y))) := rfl
@[simp] theorem bin_addT (x y : List D) : binD .add (.tuple x) (.tuple y) = if x.length + y.length ≤ 16777216 then some (.d (.tuple (x ++ y))) else none := rfl
@[simp] theorem bin_addL (x y : List D) : binD .add (.list x) (.list y) = if x.length + y.length ≤ 16777216 then some (.own (x ++ y)) else none := rfl
@[simp] theorem bin_mulI (x y : Int) : binD .mul (.int x) (.int y) = if big1 x y then some (.d (.int (x * y))) else none := rfl
@[simp] theorem bin_mulL (xs : List D) (k : Int) : binD .mul (.list xs) (.int k) = if xs.length * k.toNat ≤ 16777216 ∧ -(2 ^ 63) ≤ k ∧ k < 2 ^ 63 then some (.own (rep xs k)) else none := rfl
@[simp] theorem bin_mulT (xs : List D) (k : Int) : binD .mul (.tuple xs) (.int k) = if (xs = [] ∨ k = 1) ∧ -1000 ≤ k ∧ k ≤ 1000 then some (.d (.tuple xs)) else if xs ≠ [] ∧ 2 ≤ k ∧ k ≤ 1000 ∧ xs.length ≤ 1000 then some (.d (.tuple (rep xs k))) else none := rfl
@[simp] theorem bin_fdiv (x y : Int) : binD .fdiv (.int x) (.int y) = if big2 y then some (.d (.int (x / y))) else none := rfl
@[simp] theorem bin_mod (x y : Int) : binD .mod (.int x) (.int y) = if 0 < y then some (.d (.int (x % y))) else none := rfl
@[simp] theorem bin_pow (x y : Int) : binD .pow (.int x) (.int y) = if pow1 x y then some (.d (.int (x ^ y.toNat))) else none := rfl
@[simp] theorem bin_shl (x y : Int) : binD .shl (.int x) (.int y) = if pow1 x y then some (.d (.int (x * 2 ^ y.toNat))) else none := rfl
@[simp] theorem bin_shr (x y : Int) : binD .shr (.int x) (.int y) = if 0 ≤ y then some (.d (.int (x / 2 ^ y.toNat))) else none := rfl
@[simp] theorem cmp_lt (x y : Int) : cmpD .lt (.int x) (.int y) = some (decide (x < y)) := rfl
@[simp] theorem cmp_le (x y : Int) : cmpD .le (.int x) (.int y) = some (decide (x ≤ y)) := rfl
@[simp] theorem cmp_gt (x y : Int) : cmpD .gt (.int x) (.int y) = some (decide (y < x)) := rfl
@[simp] theorem cmp_ge (x y : Int) : cmpD .ge (.int x) (.int y) = some (decide (y ≤ x)) := rfl
@[simp] theorem cmp_isN (x : D) : cmpD .isN x .none = some (isN x) := rfl
@[simp] theorem cmp_notN (x : D) : cmpD .notN x .none = some (!isN x) := rfl
@[simp] theorem cmp_inL (x : D) (ys : List D) : cmpD .inn x (.list ys) = inD x ys := rfl
@[simp] theorem cmp_inT (x : D) (ys : List D) : cmpD .inn x (.tuple ys) = inD x ys := rfl
@[simp] theorem cmp_ninL (x : D) (ys : List D) : cmpD .notIn x (.list ys) = (inD x ys).map (!·) := rfl
@[simp] theorem cmp_ninT (x : D) (ys : List D) : cmpD .notIn x (.tuple ys) = (inD x ys).map (!·) := rfl
theorem lay_int (x : Int) : lay (.int x) = true := rfl
theorem lay_bool (x : Bool) : lay (.bool x) = true := rfl
@[simp] theorem cmp_eqI (x y : Int) : cmpD .eq (.int x) (.int y) = some (decide (x = y)) := by
  show (if (lay (.int x) && lay (.int y)) || bothS (.int x) (.int y) then some (PySem.PyData.eqv (.int x) (.int y)) else none) = _
  rw [lay_int, lay_int]
  simp only [PySem.PyData.eqv, Bool.and_self, Bool.true_or, if_true]
  rw [show (x == y) = decide (x = y) from by rw [Bool.eq_iff_iff]; simp]
@[simp] theorem cmp_neI (x y : Int) : cmpD .ne (.int x) (.int y) = some (!decide (x = y)) := by
  show (if (lay (.int x) && lay (.int y)) || bothS (.int x) (.int y) then some (!PySem.PyData.eqv (.int x) (.int y)) else none) = _
  rw [lay_int, lay_int]
  simp only [PySem.PyData.eqv, Bool.and_self, Bool.true_or, if_true]
  rw [show (x == y) = decide (x = y) from by rw [Bool.eq_iff_iff]; simp]
@[simp] theorem cmp_eqB (x y : Bool) : cmpD .eq (.bool x) (.bool y) = some (x == y) := by
  show (if (lay (.bool x) && lay (.bool y)) || bothS (.bool x) (.bool y) then some (PySem.PyData.eqv (.bool x) (.bool y)) else none) = _
  rw [lay_bool, lay_bool]
  simp [PySem.PyData.eqv]
@[simp] theorem cmp_neB (x y : Bool) : cmpD .ne (.bool x) (.bool y) = some (!(x == y)) := by
  show (if (lay (.bool x) && lay (.bool y)) || bothS (.bool x) (.bool y) then some (!PySem.PyData.eqv (.bool x) (.bool y)) else none) = _
  rw [lay_bool, lay_bool]
  simp [PySem.PyData.eqv]
theorem cmp_eqG {x y : D} (h : (lay x && lay y) = true) : cmpD .eq x y = some (PySem.PyData.eqv x y) := if_pos (by rw [h]; rfl)
theorem cmp_neG {x y : D} (h : (lay x && lay y) = true) : cmpD .ne x y = some (!PySem.PyData.eqv x y) := if_pos (by rw [h]; rfl)
@[simp] theorem cmp_eqS (x y : PySem.Str) : cmpD .eq (.str x) (.str y) = some (x == y) := by
  show (if (lay (.str x) && lay (.str y)) || bothS (.str x) (.str y) then some (PySem.PyData.eqv (.str x) (.str y)) else none) = _
  rw [if_pos (by rw [show bothS (.str x) (.str y) = true from rfl, Bool.or_true])]
  simp only [PySem.PyData.eqv]
@[simp] theorem cmp_neS (x y : PySem.Str) : cmpD .ne (.str x) (.str y) = some (!(x == y)) := by
  show (if (lay (.str x) && lay (.str y)) || bothS (.str x) (.str y) then some (!PySem.PyData.eqv (.str x) (.str y)) else none) = _
  rw [if_pos (by rw [show bothS (.str x) (.str y) = true from rfl, Bool.or_true])]
  simp only [PySem.PyData.eqv]
def ones (n : Nat) : List D := List.replicate n (.int 1)
theorem lay_ones (n : Nat) : lay (.list (ones n)) = true := by
  have h1 : PySem.PyData.canLayAll0 (ones n) = true := by
    induction n with
    | zero => rfl
    | succ n ih => simpa [ones, List.replicate_succ, PySem.PyData.canLayAll0, PySem.PyData.canLay0] using ih
  have h2 : PySem.PyData.depthAll (ones n) ≤ 1 := by
    induction n with
    | zero => simp [ones, PySem.PyData.depthAll]
    | succ n ih =>
      have := ih (by simpa [ones, List.replicate_succ, PySem.PyData.canLayAll0, PySem.PyData.canLay0] using h1)
      simp only [ones, List.replicate_succ, PySem.PyData.depthAll, PySem.PyData.depth] at this ⊢
      omega
  show (PySem.PyData.canLay0 (.list (ones n)) && decide ((PySem.PyData.list (ones n)).depth ≤ 64)) = true
  have h3 : (PySem.PyData.list (ones n)).depth ≤ 64 := by
    have e : (PySem.PyData.list (ones n)).depth = PySem.PyData.depthAll (ones n) + 1 := by simp only [PySem.PyData.depth]
    omega
  simp only [PySem.PyData.canLay0, h1, h3, Bool.true_and, decide_true]
theorem lay_nil : lay (.list []) = true := by decide +kernel
theorem lay_nilT : lay (.tuple []) = true := by decide +kernel
@[simp] theorem cmp_neOnes (n : Nat) : cmpD .ne (.list (ones n)) (.list []) = some (decide (n ≠ 0)) := by
  rw [cmp_neG (by rw [lay_ones, lay_nil]; rfl)]
  cases n with
  | zero => simp [ones, PySem.PyData.eqv, PySem.PyData.eqvAll]
  | succ n => simp [ones, List.replicate_succ, PySem.PyData.eqv, PySem.PyData.eqvAll]
@[simp] theorem cmp_eqOnes (n : Nat) : cmpD .eq (.list (ones n)) (.list []) = some (decide (n = 0)) := by
  rw [cmp_eqG (by rw [lay_ones, lay_nil]; rfl)]
  cases n with
  | zero => simp [ones, PySem.PyData.eqv, PySem.PyData.eqvAll]
  | succ n => simp [ones, List.replicate_succ, PySem.PyData.eqv, PySem.PyData.eqvAll]
@[simp] theorem ixD_L (xs : List D) (i : Int) : ixD (.list xs) (.int i) = L2.atI xs i := rfl
@[simp] theorem ixD_T (xs : List D) (i : Int) : ixD (.tuple xs) (.int i) = L2.atI xs i := rfl
@[simp] theorem slc_L (xs : List D) (lo hi : Option Int) : slcD (.list xs) lo hi = some (.own (cut xs lo hi)) := rfl
@[simp] theorem slc_T (xs : List D) (lo hi : Option Int) : slcD (.tuple xs) lo hi = some (.d (.tuple (cut xs lo hi))) := rfl
@[simp] theorem rev_L (xs : List D) : revD (.list xs) = some (.own xs.reverse) := rfl
@[simp] theorem rev_T (xs : List D) : revD (.tuple xs) = some (.d (.tuple xs.reverse)) := rfl
@[simp] theorem bi_abs (i : Int) : biD .abs [.int i] = some (.d (.int (if i < 0 then -i else i))) := rfl
@[simp] theorem bi_max2 (i j : Int) : biD .max2 [.int i, .int j] = some (.d (.int (if j > i then j else i))) := rfl
@[simp] theorem bi_min2 (i j : Int) : biD .min2 [.int i, .int j] = some (.d (.int (if j < i then j else i))) := rfl
@[simp] theorem bi_int (i : Int) : biD .int [.int i] = some (.d (.int i)) := rfl
@[simp] theorem bi_intB (i : Bool) : biD .int [.bool i] = some (.d (.int (if i then 1 else 0))) := rfl
@[simp] theorem bi_lenL (xs : List D) : biD .len [.list xs] = some (.d (.int xs.length)) := rfl
@[simp] theorem bi_lenT (xs : List D) : biD .len [.tuple xs] = some (.d (.int xs.length)) := rfl
@[simp] theorem bi_listL (xs : List D) : biD .list [.list xs] = some (.own xs) := rfl
@[simp] theorem bi_listT (xs : List D) : biD .list [.tuple xs] = some (.own xs) := rfl
@[simp] theorem bi_tupL (xs : List D) : biD .tuple [.list xs] = some (.d (.tuple xs)) := rfl
@[simp] theorem bi_tupT (xs : List D) : biD .tuple [.tuple xs] = some (.d (.tuple xs)) := rfl
@[simp] theorem bi_repr (x : D) : biD .repr [x] = if x.showable && decide (x.shown.length ≤ 16777216) && decide (x.depth ≤ 64) then some (.d (.str x.shown)) else none := rfl
@[simp] theorem bi_str (i : Int) : biD .str [.int i] = if i.natAbs.log2 < 1920 then some (.d (.str (toString i))) else none := rfl
@[simp] theorem bi_all (xs : List D) : biD .all [.list xs] = (boolsD xs).map fun bs => .d (.bool (bs.all id)) := rfl
@[simp] theorem bi_any (xs : List D) : biD .any [.list xs] = (boolsD xs).map fun bs => .d (.bool (bs.any id)) := rfl
@[simp] theorem bi_zip (x y : D) : biD .listZip [x, y] = (seqD x).bind fun xs => (seqD y).bind fun ys => if min xs.length ys.length < 16777216 then some (.own (pairsD xs ys)) else none := rfl
@[simp] theorem boolsD_n : boolsD [] = some [] := rfl
@[simp] theorem boolsD_c (b : Bool) (r : List D) : boolsD (.bool b :: r) = (boolsD r).map (b :: ·) := rfl
@[simp] theorem intsD_c (b : Int) (r : List D) : intsD (.int b :: r) = (intsD r).map (b :: ·) := rfl
@[simp] theorem intsD_n : intsD [] = some [] := rfl
theorem boolsD_map {γ : Type} (f : γ → Bool) : ∀ xs : List γ, boolsD (xs.map fun x => .bool (f x)) = some (xs.map f)
  | [] => rfl
  | x :: xs => by
    show (boolsD (xs.map fun x => .bool (f x))).map (f x :: ·) = _
    rw [boolsD_map f xs]
    rfl
theorem intsD_map {γ : Type} (f : γ → Int) : ∀ xs : List γ, intsD (xs.map fun x => .int (f x)) = some (xs.map f)
  | [] => rfl
  | x :: xs => by
    show (intsD (xs.map fun x => .int (f x))).map (f x :: ·) = _
    rw [intsD_map f xs]
    rfl
/-! ### comprehensions, loops -/
def compStep (G : G1) (own : List Nat) (t : Tg) (cs : Exs) (e : Ex) (x : D) (s : S) : M (Option D × S) :=
  bd (M.ofOpt (asg t x s)) fun s1 => bd (evC G cs s1) fun q => match q.1 with
    | true => bd (fz (ev G e q.2)) fun p => .ret (some p.1, wipeS own p.2)
    | false => .ret (none, wipeS own q.2)
def optL : Option D → List D
  | some y => [y]
  | none => []
section
variable {own : List Nat} {t : Tg} {cs : Exs} {e : Ex}
theorem compM_c (x : D) (r : List D) (s : S) (acc : List D) :
    compM own (asg t) (evC G cs) (ev G e) (x :: r) s acc = bd (compStep G own t cs e x s) fun q => compM own (asg t) (evC G cs) (ev G e) r q.2 (acc ++ optL q.1) := by
  show (bd (M.ofOpt (asg t x s)) fun s1 => bd (evC G cs s1) fun q => match q.1 with
    | true => bd (fz (ev G e q.2)) fun p => compM own (asg t) (evC G cs) (ev G e) r (wipeS own p.2) (acc ++ [p.1])
    | false => compM own (asg t) (evC G cs) (ev G e) r (wipeS own q.2) acc) = _
  unfold compStep
  rw [bd_bd]
  show M.bind _ _ = M.bind _ _
  congr 1
  funext s1
  rw [bd_bd]
  show M.bind _ _ = M.bind _ _
  congr 1
  funext q
  cases q.1 with
  | true =>
    show _ = bd (bd (fz (ev G e q.2)) fun p => M.ret (some p.1, wipeS own p.2)) _
    rw [bd_bd]
    rfl
  | false =>
    show _ = compM own (asg t) (evC G cs) (ev G e) r (wipeS own q.2) (acc ++ [])
    rw [List.append_nil]
theorem compM_eq (f : D → Option D) (s : S) : ∀ (xs acc : List D), (∀ x ∈ xs, compStep G own t cs e x s = .ret (f x, s)) → compM own (asg t) (evC G cs) (ev G e) xs s acc = .ret (acc ++ xs.filterMap f, s)
  | [], acc, _ => by simp [compM]
  | x :: xs, acc, h => by
    rw [compM_c, h x (by simp), bd_ret, compM_eq f s xs _ fun y hy => h y (List.mem_cons_of_mem _ hy)]
    cases e1 : f x <;> simp [optL, List.filterMap_cons, e1]
theorem compE_eq (f : D → Option D) {s : S} {xs : List D} (h : ∀ x ∈ xs, compStep G own t cs e x s = .ret (f x, s)) : compE G own t cs e xs s = .ret (xs.filterMap f, s) := by
  unfold compE
  rw [compM_eq f s xs [] h]
  rfl
/-- what a comprehension gives, of each thing -/
inductive Each (Pr : D → D → Prop) : List D → List D → Prop
  | nil : Each Pr [] []
  | cons {x y : D} {xs ys : List D} : Pr x y → Each Pr xs ys → Each Pr (x :: xs) (y :: ys)
theorem Each.len {Pr : D → D → Prop} {xs ys : List D} (h : Each Pr xs ys) : ys.length = xs.length := by
  induction h with
  | nil => rfl
  | cons _ _ ih => simp [ih]
theorem Each.all {Pr : D → D → Prop} {Q : D → Prop} {xs ys : List D} (h : Each Pr xs ys) (hq : ∀ x y, Pr x y → Q y) : ∀ y ∈ ys, Q y := by
  induction h with
  | nil => simp
  | cons a _ ih => simpa using ⟨hq _ _ a, ih⟩
theorem compM_all (Pr : D → D → Prop) (s : S) {P : List D × S → Prop} : ∀ (xs acc : List D), (∀ x ∈ xs, Gives (compStep G own t cs e x s) (fun q => ∃ y, q = (some y, s) ∧ Pr x y)) → (∀ ys, Each Pr xs ys → P (acc ++ ys, s)) → Gives (compM own (asg t) (evC G cs) (ev G e) xs s acc) P
  | [], acc, _, hp => by simpa [compM] using hp [] .nil
  | x :: xs, acc, h, hp => by
    rw [compM_c]
    refine Ends.step (h x (by simp)) fun q hq => ?_
    obtain ⟨y, rfl, hy⟩ := hq
    refine compM_all Pr s xs _ (fun z hz => h z (List.mem_cons_of_mem _ hz)) fun ys hys => ?_
    have := hp (y :: ys) (.cons hy hys)
    simpa [optL] using this
theorem compE_all (Pr : D → D → Prop) {s : S} {xs : List D} (h : ∀ x ∈ xs, Gives (compStep G own t cs e x s) (fun q => ∃ y, q = (some y, s) ∧ Pr x y)) : Gives (compE G own t cs e xs s) (fun r => ∃ ys, r = (ys, s) ∧ Each Pr xs ys) :=
  ⟨M.nox_all (R := fun _ _ => False) (compM_all Pr s xs [] h fun ys hy => ⟨ys, rfl, hy⟩).h⟩
/-- a comprehension whose things change the slots: a relation that stays -/
theorem compM_inv (I : List D → S → List D → Prop) {P : List D × S → Prop} : ∀ (xs : List D) (s : S) (acc : List D), I xs s acc → (∀ x r s acc, I (x :: r) s acc → Gives (compStep G own t cs e x s) (fun q => I r q.2 (acc ++ optL q.1))) → (∀ s acc, I [] s acc → P (acc, s)) → Gives (compM own (asg t) (evC G cs) (ev G e) xs s acc) P
  | [], s, acc, h, _, hp => by simpa [compM] using hp s acc h
  | x :: xs, s, acc, h, st, hp => by
    rw [compM_c]
    exact Ends.step (st x xs s acc h) fun q hq => compM_inv I xs q.2 _ hq st hp
theorem compE_inv (I : List D → S → List D → Prop) {s : S} {xs : List D} (h : I xs s []) (st : ∀ x r s acc, I (x :: r) s acc → Gives (compStep G own t cs e x s) (fun q => I r q.2 (acc ++ optL q.1))) : Gives (compE G own t cs e xs s) (fun r => I [] r.2 r.1) :=
  ⟨M.nox_all (R := fun _ _ => False) (compM_inv I xs s [] h st fun s acc h => h).h⟩
end
@[simp] theorem forE_n (t : Tg) (b : Sts) (s : S) : forE G n t b [] s = .ret (.nx s) := rfl
theorem forE_c (t : Tg) (b : Sts) (x : D) (r : List D) (s : S) : forE G n t b (x :: r) s = bd (M.ofOpt (TP.asg t x s)) fun s1 => bd (execs n G b s1) fun f => match f with
    | .nx s => forE G n t b r s
    | .ct s => forE G n t b r s
    | .bk s => .ret (.nx s)
    | .rt v => .ret (.rt v) := rfl
theorem whileE_s (c : Ex) (b : Sts) (m : Nat) (s : S) : whileE G n c b (m + 1) s = bd (tst (oper (isBor c) (ev G c) s)) fun r => match r.1 with
    | true => bd (execs n G b r.2) fun f => match f with
      | .nx s => whileE G n c b m s
      | .ct s => whileE G n c b m s
      | .bk s => .ret (.nx s)
      | .rt v => .ret (.rt v)
    | false => .ret (.nx r.2) := rfl
/-- one turn of a loop: what holds behind it -/
def Turn (I : S → Prop) (Q : Fl → Prop) : Fl → Prop
  | .nx s => I s
  | .ct s => I s
  | .bk s => Q (.nx s)
  | .rt v => Q (.rt v)
theorem forE_all {t : Tg} {b : Sts} {Q : Fl → Prop} {R : Nat → D → Prop} (I : List D → S → Prop) : ∀ (xs : List D) (s : S), I xs s →
    (∀ x r s, I (x :: r) s → Ends (bd (M.ofOpt (TP.asg t x s)) fun s1 => execs n G b s1) (Turn (I r) Q) R) →
    (∀ s, I [] s → Q (.nx s)) → Ends (forE G n t b xs s) Q R
  | [], s, h, _, e => ⟨e s h⟩
  | x :: r, s, h, st, e => by
    have h2 := st x r s h
    have e1 : forE G n t b (x :: r) s = bd (bd (M.ofOpt (TP.asg t x s)) fun s1 => execs n G b s1) fun f => match f with
      | .nx s => forE G n t b r s
      | .ct s => forE G n t b r s
      | .bk s => .ret (.nx s)
      | .rt v => .ret (.rt v) := by rw [bd_bd]; rfl
    rw [e1]
    refine Ends.bind h2 fun fl hf => ?_
    match fl, hf with
    | .nx s2, hf => exact forE_all I r s2 hf st e
    | .ct s2, hf => exact forE_all I r s2 hf st e
    | .bk s2, hf => exact ⟨hf⟩
    | .rt v, hf => exact ⟨hf⟩
theorem whileE_all {c : Ex} {b : Sts} {Q : Fl → Prop} {R : Nat → D → Prop} (I : Nat → S → Prop) (st : ∀ m s, I m s → Ends (tst (oper (isBor c) (ev G c) s)) (fun r => match r.1 with
      | true => Ends (execs n G b r.2) (Turn (fun s2 => ∃ m', m' < m ∧ I m' s2) Q) R
      | false => Q (.nx r.2)) R) : ∀ (f m : Nat) (s : S), m < f → I m s → Ends (whileE G n c b f s) Q R
  | 0, m, s, h, _ => absurd h (Nat.not_lt_zero _)
  | f + 1, m, s, h, hi => by
    rw [whileE_s]
    refine Ends.bind (st m s hi) fun r hr => ?_
    obtain ⟨t, s1⟩ := r
    cases t with
    | false => exact ⟨hr⟩
    | true =>
      refine Ends.bind hr fun fl hf => ?_
      match fl, hf with
      | .nx s2, ⟨m', hm, h2⟩ => exact whileE_all I st f m' s2 (by omega) h2
      | .ct s2, ⟨m', hm, h2⟩ => exact whileE_all I st f m' s2 (by omega) h2
      | .bk s2, hf => exact ⟨hf⟩
      | .rt v, hf => exact ⟨hf⟩
end
end TP
end

section
set_option linter.all false
set_option maxRecDepth 100000
/-! How long data's texts are, how deep data is. -/
namespace TP
open PySem
mutual
/-- at least the length of the text, and 2 -/
def sz : D → Nat
  | .list xs => szL xs + 6
  | .tuple xs => szL xs + 6
  | x => x.shown.length + 2
def szL : List D → Nat
  | [] => 0
  | x :: xs => sz x + szL xs
end
theorem sz_list (xs : List D) : sz (.list xs) = szL xs + 6 := by simp only [sz]
theorem sz_tuple (xs : List D) : sz (.tuple xs) = szL xs + 6 := by simp only [sz]
@[simp] theorem szL_nil : szL [] = 0 := by simp only [szL]
@[simp] theorem szL_cons (x : D) (xs : List D) : szL (x :: xs) = sz x + szL xs := by simp only [szL]
theorem szL_append (xs ys : List D) : szL (xs ++ ys) = szL xs + szL ys := by
  induction xs with
  | nil => simp
  | cons x xs ih => simp [ih, Nat.add_assoc]
theorem szL_reverse (xs : List D) : szL xs.reverse = szL xs := by
  induction xs with
  | nil => rfl
  | cons x xs ih => rw [List.reverse_cons, szL_append, ih]; simp [Nat.add_comm]
theorem szL_drop (xs : List D) (n : Nat) : szL (xs.drop n) ≤ szL xs := by
  have h := szL_append (xs.take n) (xs.drop n)
  rw [List.take_append_drop] at h
  omega
theorem szL_take (xs : List D) (n : Nat) : szL (xs.take n) ≤ szL xs := by
  have h := szL_append (xs.take n) (xs.drop n)
  rw [List.take_append_drop] at h
  omega
theorem szL_mem {x : D} : ∀ {xs : List D}, x ∈ xs → sz x ≤ szL xs
  | y :: ys, h => by
    rw [szL_cons]
    rcases List.mem_cons.mp h with e | e
    · subst e; omega
    · have := szL_mem e; omega
theorem szL_split (xs : List D) (i : Nat) (h : i < xs.length) : szL xs = szL (xs.take i) + sz xs[i] + szL (xs.drop (i + 1)) := by
  have e : xs = xs.take i ++ xs[i] :: xs.drop (i + 1) := by rw [List.getElem_cons_drop, List.take_append_drop]
  have h1 := congrArg szL e
  rw [szL_append, szL_cons] at h1
  omega
theorem join_le (ts : List Str) : (Str.join ", " ts).length ≤ piled ts := by
  by_cases h : ts = []
  · subst h; decide
  · have := join_length_add ts h; omega
theorem listText_le (ts : List Str) : (listText ts).length ≤ piled ts + 2 := by
  cases ts with
  | nil => decide +kernel
  | cons t r =>
    have h := textFrom_length_pos r 1 (("[" : Str) ++ (if (0 : Nat) > 0 then ", " else "" : String) ++ t) (Nat.succ_pos 0)
    have e : ((("[" : Str) ++ (if (0 : Nat) > 0 then ", " else "" : String) ++ t)).length = 1 + t.length := by
      rw [strLen_append, strLen_append]
      rfl
    show (textFrom 1 (("[" : Str) ++ (if (0 : Nat) > 0 then ", " else "" : String) ++ t) r ++ "]").length ≤ _
    rw [strLen_append, h, e, piled_cons]
    have : (Str.ofString "]").length = 1 := rfl
    omega
theorem tupleText_le (ts : List Str) : (tupleText ts).length ≤ piled ts + 3 := by
  unfold tupleText
  rw [strLen_append, strLen_append]
  have e1 : (Str.ofString "(").length = 1 := rfl
  have e3 : (Str.ofString (if ts.length == 1 then ",)" else ")")).length ≤ 2 := by split <;> decide
  have := join_le ts
  omega
mutual
theorem shown_sz : ∀ x : D, x.shown.length + 2 ≤ sz x
  | .list xs => by
    rw [sz_list]
    simp only [PyData.shown]
    have := listText_le (PyData.shownAll xs)
    have := shownL_sz xs
    omega
  | .tuple xs => by
    rw [sz_tuple]
    simp only [PyData.shown]
    have := tupleText_le (PyData.shownAll xs)
    have := shownL_sz xs
    omega
  | .none => by simp only [sz]; exact Nat.le_refl _
  | .bool b => by simp only [sz]; exact Nat.le_refl _
  | .int i => by simp only [sz]; exact Nat.le_refl _
  | .str x => by simp only [sz]; exact Nat.le_refl _
  | .dict kvs => by simp only [sz]; exact Nat.le_refl _
theorem shownL_sz : ∀ xs : List D, piled (PyData.shownAll xs) ≤ szL xs
  | [] => by simp only [PyData.shownAll]; exact Nat.le_refl _
  | x :: xs => by
    simp only [PyData.shownAll]
    rw [piled_cons, szL_cons]
    have := shown_sz x
    have := shownL_sz xs
    omega
end
theorem len_sz : ∀ xs : List D, 2 * xs.length ≤ szL xs
  | [] => Nat.le_refl _
  | x :: xs => by
    have := len_sz xs
    have := shown_sz x
    rw [szL_cons, List.length_cons]
    omega
theorem sz_int (i : Int) (h : i.natAbs.log2 < 400) : sz (.int i) ≤ 403 := by
  have := int_text_length_le (a := i) (k := 400) (by decide) h
  simp only [sz, PyData.shown]
  have e : (Str.ofString (toString i)).length = (toString i).length := ofString_length _
  omega
/-- what can be shown: so deep, so long -/
structure Fine (d w : Nat) (x : D) : Prop where
  sh : x.showable = true
  dp : x.depth ≤ d
  ln : sz x ≤ w
structure FineL (d w : Nat) (xs : List D) : Prop where
  sh : PyData.showableAll xs = true
  dp : PyData.depthAll xs ≤ d
  ln : szL xs ≤ w
section
variable {d d' e w w' u : Nat} {x y : D} {xs ys : List D}
theorem Fine.mono (h : Fine d w x) (hd : d ≤ d') (hw : w ≤ w') : Fine d' w' x := ⟨h.sh, Nat.le_trans h.dp hd, Nat.le_trans h.ln hw⟩
theorem FineL.mono (h : FineL d w xs) (hd : d ≤ d') (hw : w ≤ w') : FineL d' w' xs := ⟨h.sh, Nat.le_trans h.dp hd, Nat.le_trans h.ln hw⟩
theorem FineL.nil : FineL d w [] := ⟨by simp [PyData.showableAll], by simp [PyData.depthAll], by simp⟩
theorem FineL.cons (h : Fine d w x) (g : FineL d u xs) : FineL d (w + u) (x :: xs) :=
  ⟨by simp [PyData.showableAll, h.sh, g.sh], by have := h.dp; have := g.dp; simp only [PyData.depthAll]; omega, by have := h.ln; have := g.ln; rw [szL_cons]; omega⟩
theorem FineL.of_cons (h : FineL d w (x :: xs)) : Fine d w x ∧ FineL d w xs := by
  obtain ⟨h1, h2, h3⟩ := h
  simp only [PyData.showableAll, Bool.and_eq_true] at h1
  simp only [PyData.depthAll] at h2
  rw [szL_cons] at h3
  exact ⟨⟨h1.1, by omega, by omega⟩, ⟨h1.2, by omega, by omega⟩⟩
theorem FineL.append (h : FineL d w xs) (g : FineL d u ys) : FineL d (w + u) (xs ++ ys) := by
  refine ⟨?_, ?_, by rw [szL_append]; exact Nat.add_le_add h.ln g.ln⟩
  · have : ∀ xs : List D, PyData.showableAll xs = true → PyData.showableAll (xs ++ ys) = true := by
      intro xs
      induction xs with
      | nil => intro _; exact g.sh
      | cons x xs ih =>
        intro hx
        simp only [PyData.showableAll, Bool.and_eq_true] at hx
        simp [PyData.showableAll, hx.1, ih hx.2]
    exact this xs h.sh
  · have : ∀ xs : List D, PyData.depthAll xs ≤ d → PyData.depthAll (xs ++ ys) ≤ d := by
      intro xs
      induction xs with
      | nil => intro _; exact g.dp
      | cons x xs ih =>
        intro hx
        simp only [PyData.depthAll] at hx
        have := ih (by omega)
        simp only [List.cons_append, PyData.depthAll]
        omega
    exact this xs h.dp
theorem FineL.mem (h : FineL d w xs) (m : x ∈ xs) : Fine d w x := by
  induction xs with
  | nil => cases m
  | cons y xs ih =>
    obtain ⟨h1, h2⟩ := h.of_cons
    rcases List.mem_cons.mp m with e | e
    · rw [e]; exact h1
    · exact ih h2 e
theorem FineL.of_all (h1 : ∀ x ∈ xs, x.showable = true ∧ x.depth ≤ d) (h2 : szL xs ≤ w) : FineL d w xs := by
  refine ⟨?_, ?_, h2⟩
  · clear h2
    induction xs with
    | nil => rfl
    | cons y xs ih => simp [PyData.showableAll, (h1 y (by simp)).1, ih fun x hx => h1 x (List.mem_cons_of_mem _ hx)]
  · clear h2
    induction xs with
    | nil => simp [PyData.depthAll]
    | cons y xs ih =>
      have := (h1 y (by simp)).2
      have := ih fun x hx => h1 x (List.mem_cons_of_mem _ hx)
      simp only [PyData.depthAll]
      omega
/-- things of some kind, each so long -/
theorem FineL.of_each (h : ∀ x ∈ xs, Fine d w x) : FineL d (w * xs.length) xs := by
  refine .of_all (fun x hx => ⟨(h x hx).sh, (h x hx).dp⟩) ?_
  induction xs with
  | nil => simp
  | cons y xs ih =>
    have := (h y (by simp)).ln
    have := ih fun x hx => h x (List.mem_cons_of_mem _ hx)
    rw [szL_cons, List.length_cons, Nat.mul_add]
    omega
theorem FineL.sub (h : FineL d w xs) (m : ∀ x ∈ ys, x ∈ xs) (l : szL ys ≤ u) : FineL d u ys := .of_all (fun x hx => ⟨(h.mem (m x hx)).sh, (h.mem (m x hx)).dp⟩) l
theorem FineL.take (h : FineL d w xs) (n : Nat) : FineL d w (xs.take n) := h.sub (fun x hx => List.mem_of_mem_take hx) (Nat.le_trans (szL_take _ _) h.ln)
theorem FineL.drop (h : FineL d w xs) (n : Nat) : FineL d w (xs.drop n) := h.sub (fun x hx => List.mem_of_mem_drop hx) (Nat.le_trans (szL_drop _ _) h.ln)
theorem FineL.reverse (h : FineL d w xs) : FineL d w xs.reverse := h.sub (fun x hx => by simpa using hx) (by rw [szL_reverse]; exact h.ln)
theorem FineL.cut (h : FineL d w xs) (lo hi : Option Int) : FineL d w (cut xs lo hi) := (h.drop _).take _
theorem Fine.tuple (h : FineL d w xs) : Fine (d + 1) (w + 6) (.tuple xs) := ⟨by simpa only [PyData.showable] using h.sh, by have := h.dp; simp only [PyData.depth]; omega, by have := h.ln; rw [sz_tuple]; omega⟩
theorem Fine.list (h : FineL d w xs) : Fine (d + 1) (w + 6) (.list xs) := ⟨by simpa only [PyData.showable] using h.sh, by have := h.dp; simp only [PyData.depth]; omega, by have := h.ln; rw [sz_list]; omega⟩
theorem Fine.of_tuple (h : Fine d w (.tuple xs)) : FineL (d - 1) (w - 6) xs ∧ 1 ≤ d ∧ 6 ≤ w := by
  obtain ⟨h1, h2, h3⟩ := h
  rw [sz_tuple] at h3
  simp only [PyData.depth] at h2
  simp only [PyData.showable] at h1
  exact ⟨⟨h1, by omega, by omega⟩, by omega, by omega⟩
theorem Fine.of_list (h : Fine d w (.list xs)) : FineL (d - 1) (w - 6) xs ∧ 1 ≤ d ∧ 6 ≤ w := by
  obtain ⟨h1, h2, h3⟩ := h
  rw [sz_list] at h3
  simp only [PyData.depth] at h2
  simp only [PyData.showable] at h1
  exact ⟨⟨h1, by omega, by omega⟩, by omega, by omega⟩
theorem Fine.int {i : Int} (h : i.natAbs.log2 < 400) : Fine 0 403 (.int i) := ⟨by simp only [PyData.showable, decide_eq_true_eq]; omega, by simp [PyData.depth], sz_int i h⟩
theorem Fine.bool (b : Bool) : Fine 0 403 (.bool b) := ⟨by simp [PyData.showable], by simp [PyData.depth], by cases b <;> decide +kernel⟩
theorem Fine.none : Fine 0 403 .none := ⟨by simp [PyData.showable], by simp [PyData.depth], by decide +kernel⟩
theorem Fine.repr (h : Fine d w x) (hd : d ≤ 64) (hw : w ≤ 16777216) : (x.showable && decide (x.shown.length ≤ 16777216) && decide (x.depth ≤ 64)) = true := by
  have h1 := h.sh
  have h2 := h.dp
  have h3 := h.ln
  have h4 := shown_sz x
  rw [h1, decide_eq_true (by omega), decide_eq_true (by omega)]
  rfl
theorem FineL.len (h : FineL d w xs) : 2 * xs.length ≤ w := Nat.le_trans (len_sz xs) h.ln
end
end TP
end

section
set_option maxRecDepth 100000
namespace K92
open PySem TP
abbrev c_DrawError : Nat := 0
abbrev c_BadFraction : Nat := 1
abbrev c_BadNumber : Nat := 2
abbrev c_BadBias : Nat := 3
abbrev c_BadPolynomial : Nat := 4
abbrev c_BadFactory : Nat := 5
abbrev f_is_integer : Nat := 0
abbrev f_is_between : Nat := 1
abbrev f_divisor_of : Nat := 2
abbrev f_is_fraction_value : Nat := 3
abbrev f_lowest : Nat := 4
abbrev f_plus : Nat := 5
abbrev f_times : Nat := 6
abbrev f_total : Nat := 7
abbrev f_is_less : Nat := 8
abbrev f_is_at_most : Nat := 9
abbrev f_is_bias : Nat := 10
abbrev f_need_bias : Nat := 11
abbrev f_is_polynomial_value : Nat := 12
abbrev f_need_polynomial : Nat := 13
abbrev f_is_chance : Nat := 14
abbrev f_is_factory_value : Nat := 15
abbrev f_need_factory : Nat := 16
abbrev f_raw_value : Nat := 17
abbrev f_degree_of : Nat := 18
abbrev f_raw_numbers : Nat := 19
abbrev f_without_noughts : Nat := 20
abbrev f_raw_polynomial : Nat := 21
abbrev f_value_at : Nat := 22
abbrev f_numbers_of : Nat := 23
abbrev f_polynomial_of : Nat := 24
abbrev f_chance_at : Nat := 25
abbrev f__law_deck : Nat := 26
abbrev f__law_draw : Nat := 27
abbrev f__law_pick : Nat := 28
abbrev f__law_same : Nat := 29
abbrev f__law_low : Nat := 30
abbrev f__law_plus : Nat := 31
abbrev f__law_times : Nat := 32
abbrev f__law_minus : Nat := 33
abbrev f__law_choose : Nat := 34
abbrev f__law_cut : Nat := 35
abbrev f__law_value : Nat := 36
abbrev f__law_numbers : Nat := 37
abbrev f__law_polynomial : Nat := 38
abbrev f__law_chance : Nat := 39
abbrev f__law_any_fraction : Nat := 40
abbrev f__law_share : Nat := 41
abbrev f__law_bias : Nat := 42
abbrev f__law_poly : Nat := 43
abbrev f__law_is_poly_right : Nat := 44
abbrev f__law_is_factory_right : Nat := 45
abbrev f_law : Nat := 46
def b_is_integer : Sts := (.cons (.ret (.and (.isin (.bor 0) [.int]) (.not (.isin (.bor 0) [.bool]))))
  .nil)
def n_is_integer : List Str := ["thing"]
def d_is_integer : Def := ⟨1, 1, b_is_integer⟩
def b_is_between : Sts := (.cons (.ret (.and (.call f_is_integer (.cons (.var 0) .nil)) (.chain .le .le (.bor 1) (.bor 0) (.bor 2))))
  .nil)
def n_is_between : List Str := ["thing", "least", "most"]
def d_is_between : Def := ⟨3, 3, b_is_between⟩
def b_divisor_of : Sts := (.cons (.asg 0 (.bi .abs (.cons (.bor 0) .nil)))
  (.cons (.whil (.cmp .ne (.bor 1) (.int 0))
  (.cons (.par [0, 1] (.cons (.var 1) (.cons (.bin .mod (.bor 0) (.bor 1)) .nil)))
  .nil))
  (.cons (.ret (.var 0))
  .nil)))
def n_divisor_of : List Str := ["one", "other"]
def d_divisor_of : Def := ⟨2, 2, b_divisor_of⟩
def b_is_fraction_value : Sts := (.cons (.ite (.or (.not (.isin (.bor 0) [.tuple])) (.or (.cmp .ne (.bi .len (.cons (.bor 0) .nil)) (.int 2)) (.or (.not (.call f_is_integer (.cons (.idx (.bor 0) (.int 0)) .nil))) (.not (.call f_is_integer (.cons (.idx (.bor 0) (.int 1)) .nil))))))
  (.cons (.ret (.bl false))
  .nil)
  .nil)
  (.cons (.ret (.and (.cmp .gt (.idx (.bor 0) (.int 1)) (.int 0)) (.cmp .eq (.call f_divisor_of (.cons (.idx (.bor 0) (.int 0)) (.cons (.idx (.bor 0) (.int 1)) .nil))) (.int 1))))
  .nil))
def n_is_fraction_value : List Str := ["thing"]
def d_is_fraction_value : Def := ⟨1, 1, b_is_fraction_value⟩
def b_lowest : Sts := (.cons (.asg 2 (.call f_divisor_of (.cons (.var 0) (.cons (.var 1) .nil))))
  (.cons (.ret (.tup (.cons (.bin .fdiv (.bor 0) (.bor 2)) (.cons (.bin .fdiv (.bor 1) (.bor 2)) .nil))))
  .nil))
def n_lowest : List Str := ["top", "bottom", "common"]
def d_lowest : Def := ⟨2, 3, b_lowest⟩
def b_plus : Sts := (.cons (.ret (.call f_lowest (.cons (.bin .add (.bin .mul (.idx (.bor 0) (.int 0)) (.idx (.bor 1) (.int 1))) (.bin .mul (.idx (.bor 1) (.int 0)) (.idx (.bor 0) (.int 1)))) (.cons (.bin .mul (.idx (.bor 0) (.int 1)) (.idx (.bor 1) (.int 1))) .nil))))
  .nil)
def n_plus : List Str := ["one", "other"]
def d_plus : Def := ⟨2, 2, b_plus⟩
def b_times : Sts := (.cons (.ret (.call f_lowest (.cons (.bin .mul (.idx (.bor 0) (.int 0)) (.idx (.bor 1) (.int 0))) (.cons (.bin .mul (.idx (.bor 0) (.int 1)) (.idx (.bor 1) (.int 1))) .nil))))
  .nil)
def n_times : List Str := ["one", "other"]
def d_times : Def := ⟨2, 2, b_times⟩
def b_total : Sts := (.cons (.asg 1 (.glob "ZERO" (.tuple [(.int 0), (.int 1)])))
  (.cons (.for_ (.nm 2) (.seq (.var 0))
  (.cons (.asg 1 (.call f_plus (.cons (.var 1) (.cons (.var 2) .nil))))
  .nil))
  (.cons (.ret (.var 1))
  .nil)))
def n_total : List Str := ["some", "found", "one"]
def d_total : Def := ⟨1, 3, b_total⟩
def b_is_less : Sts := (.cons (.ret (.cmp .lt (.bin .mul (.idx (.bor 0) (.int 0)) (.idx (.bor 1) (.int 1))) (.bin .mul (.idx (.bor 1) (.int 0)) (.idx (.bor 0) (.int 1)))))
  .nil)
def n_is_less : List Str := ["one", "other"]
def d_is_less : Def := ⟨2, 2, b_is_less⟩
def b_is_at_most : Sts := (.cons (.ret (.cmp .le (.bin .mul (.idx (.bor 0) (.int 0)) (.idx (.bor 1) (.int 1))) (.bin .mul (.idx (.bor 1) (.int 0)) (.idx (.bor 0) (.int 1)))))
  .nil)
def n_is_at_most : List Str := ["one", "other"]
def d_is_at_most : Def := ⟨2, 2, b_is_at_most⟩
def b_is_bias : Sts := (.cons (.ret (.and (.call f_is_fraction_value (.cons (.var 0) .nil)) (.and (.cmp .gt (.idx (.bor 0) (.int 0)) (.int 0)) (.call f_is_less (.cons (.var 0) (.cons (.glob "ONE" (.tuple [(.int 1), (.int 1)])) .nil))))))
  .nil)
def n_is_bias : List Str := ["thing"]
def d_is_bias : Def := ⟨1, 1, b_is_bias⟩
def b_need_bias : Sts := (.cons (.ite (.not (.call f_is_bias (.cons (.var 0) .nil)))
  (.cons .never
  .nil)
  .nil)
  .nil)
def n_need_bias : List Str := ["p"]
def d_need_bias : Def := ⟨1, 1, b_need_bias⟩
def b_is_polynomial_value : Sts := (.cons (.ite (.or (.not (.isin (.bor 0) [.tuple])) (.cmp .gt (.bi .len (.cons (.bor 0) .nil)) (.bin .add (.glob "MOST_DEGREE" (.int 8)) (.int 1))))
  (.cons (.ret (.bl false))
  .nil)
  .nil)
  (.cons (.ret (.and (.bi .all (.cons (.comp (.call f_is_fraction_value (.cons (.var 1) .nil)) (.nm 1) (.seq (.var 0)) .nil [1]) .nil)) (.or (.cmp .eq (.bor 0) (.tup .nil)) (.cmp .ne (.idx (.bor 0) (.neg (.int 1))) (.glob "ZERO" (.tuple [(.int 0), (.int 1)]))))))
  .nil))
def n_is_polynomial_value : List Str := ["thing", "number"]
def d_is_polynomial_value : Def := ⟨1, 2, b_is_polynomial_value⟩
def b_need_polynomial : Sts := (.cons (.ite (.not (.call f_is_polynomial_value (.cons (.var 0) .nil)))
  (.cons .never
  .nil)
  .nil)
  .nil)
def n_need_polynomial : List Str := ["poly"]
def d_need_polynomial : Def := ⟨1, 1, b_need_polynomial⟩
def b_is_chance : Sts := (.cons (.ret (.and (.call f_is_fraction_value (.cons (.var 0) .nil)) (.and (.cmp .ge (.idx (.bor 0) (.int 0)) (.int 0)) (.call f_is_at_most (.cons (.var 0) (.cons (.glob "ONE" (.tuple [(.int 1), (.int 1)])) .nil))))))
  .nil)
def n_is_chance : List Str := ["thing"]
def d_is_chance : Def := ⟨1, 1, b_is_chance⟩
def b_is_factory_value : Sts := (.cons (.ite (.or (.not (.isin (.bor 0) [.tuple])) (.not (.chain .le .le (.int 1) (.bi .len (.cons (.bor 0) .nil)) (.bin .add (.glob "MOST_TURNS" (.int 40)) (.int 1)))))
  (.cons (.ret (.bl false))
  .nil)
  .nil)
  (.cons (.ret (.bi .all (.cons (.comp (.call f_is_chance (.cons (.var 1) .nil)) (.nm 1) (.seq (.var 0)) .nil [1]) .nil)))
  .nil))
def n_is_factory_value : List Str := ["thing", "number"]
def d_is_factory_value : Def := ⟨1, 2, b_is_factory_value⟩
def b_need_factory : Sts := (.cons (.ite (.not (.call f_is_factory_value (.cons (.var 0) .nil)))
  (.cons .never
  .nil)
  .nil)
  .nil)
def n_need_factory : List Str := ["numbers"]
def d_need_factory : Def := ⟨1, 1, b_need_factory⟩
def b_raw_value : Sts := (.cons (.asg 2 (.glob "ZERO" (.tuple [(.int 0), (.int 1)])))
  (.cons (.for_ (.nm 3) (.seq (.rev (.bor 0)))
  (.cons (.asg 2 (.call f_plus (.cons (.call f_times (.cons (.var 2) (.cons (.var 1) .nil))) (.cons (.var 3) .nil))))
  .nil))
  (.cons (.ret (.var 2))
  .nil)))
def n_raw_value : List Str := ["poly", "x", "found", "number"]
def d_raw_value : Def := ⟨2, 4, b_raw_value⟩
def b_degree_of : Sts := (.cons (.ret (.bi .max2 (.cons (.int 0) (.cons (.bin .sub (.bi .len (.cons (.bor 0) .nil)) (.int 1)) .nil))))
  .nil)
def n_degree_of : List Str := ["poly"]
def d_degree_of : Def := ⟨1, 1, b_degree_of⟩
def b_raw_numbers : Sts := (.cons (.asg 2 (.lst .nil))
  (.cons (.for_ (.nm 3) (.rng1 (.bin .add (.bor 1) (.int 1)))
  (.cons (.asg 4 (.comp (.call f_times (.cons (.call f_lowest (.cons (.bi .comb (.cons (.bor 3) (.cons (.bor 5) .nil))) (.cons (.bi .comb (.cons (.bor 1) (.cons (.bor 5) .nil))) .nil))) (.cons (.var 6) .nil))) (.tp (.cons (.nm 5) (.cons (.nm 6) .nil))) (.enum (.var 0)) (.cons (.cmp .le (.bor 5) (.bor 3)) .nil) [5, 6]))
  (.cons (.append 2 (.call f_total (.cons (.var 4) .nil)))
  .nil)))
  (.cons (.ret (.bi .tuple (.cons (.bor 2) .nil)))
  .nil)))
def n_raw_numbers : List Str := ["poly", "n", "found", "k", "parts", "i", "number"]
def d_raw_numbers : Def := ⟨2, 7, b_raw_numbers⟩
def b_without_noughts : Sts := (.cons (.asg 1 (.bi .len (.cons (.bor 0) .nil)))
  (.cons (.whil (.and (.cmp .gt (.bor 1) (.int 0)) (.cmp .eq (.idx (.bor 0) (.bin .sub (.bor 1) (.int 1))) (.glob "ZERO" (.tuple [(.int 0), (.int 1)]))))
  (.cons (.asg 1 (.bin .sub (.bor 1) (.int 1)))
  .nil))
  (.cons (.ret (.bi .tuple (.cons (.slc (.bor 0) .nil (.cons (.var 1) .nil)) .nil)))
  .nil)))
def n_without_noughts : List Str := ["numbers", "last"]
def d_without_noughts : Def := ⟨1, 2, b_without_noughts⟩
def b_raw_polynomial : Sts := (.cons (.par [1, 2] (.cons (.bin .sub (.bi .len (.cons (.bor 0) .nil)) (.int 1)) (.cons (.lst .nil) .nil)))
  (.cons (.for_ (.nm 3) (.rng1 (.bin .add (.bor 1) (.int 1)))
  (.cons (.asg 4 (.lst .nil))
  (.cons (.for_ (.nm 5) (.rng1 (.bin .add (.bor 3) (.int 1)))
  (.cons (.asg 6 (.ife (.cmp .eq (.bin .mod (.bin .sub (.bor 3) (.bor 5)) (.int 2)) (.int 0)) (.int 1) (.neg (.int 1))))
  (.cons (.append 4 (.call f_times (.cons (.tup (.cons (.bin .mul (.bor 6) (.bi .comb (.cons (.bor 3) (.cons (.bor 5) .nil)))) (.cons (.int 1) .nil))) (.cons (.idx (.bor 0) (.bor 5)) .nil))))
  .nil)))
  (.cons (.append 2 (.call f_times (.cons (.tup (.cons (.bi .comb (.cons (.bor 1) (.cons (.bor 3) .nil))) (.cons (.int 1) .nil))) (.cons (.call f_total (.cons (.var 4) .nil)) .nil))))
  .nil))))
  (.cons (.ret (.call f_without_noughts (.cons (.var 2) .nil)))
  .nil)))
def n_raw_polynomial : List Str := ["numbers", "n", "found", "i", "parts", "j", "sign"]
def d_raw_polynomial : Def := ⟨1, 7, b_raw_polynomial⟩
def b_value_at : Sts := (.cons (.expr (.call f_need_polynomial (.cons (.var 0) .nil)))
  (.cons (.ite (.not (.call f_is_fraction_value (.cons (.var 1) .nil)))
  (.cons .never
  .nil)
  .nil)
  (.cons (.ret (.call f_raw_value (.cons (.var 0) (.cons (.var 1) .nil))))
  .nil)))
def n_value_at : List Str := ["poly", "x"]
def d_value_at : Def := ⟨2, 2, b_value_at⟩
def b_numbers_of : Sts := (.cons (.expr (.call f_need_polynomial (.cons (.var 0) .nil)))
  (.cons (.ite (.not (.call f_is_between (.cons (.var 1) (.cons (.call f_degree_of (.cons (.var 0) .nil)) (.cons (.glob "MOST_TURNS" (.int 40)) .nil)))))
  (.cons .never
  .nil)
  .nil)
  (.cons (.ret (.call f_raw_numbers (.cons (.var 0) (.cons (.var 1) .nil))))
  .nil)))
def n_numbers_of : List Str := ["poly", "n"]
def d_numbers_of : Def := ⟨2, 2, b_numbers_of⟩
def b_polynomial_of : Sts := (.cons (.expr (.call f_need_factory (.cons (.var 0) .nil)))
  (.cons (.ret (.call f_raw_polynomial (.cons (.var 0) .nil)))
  .nil))
def n_polynomial_of : List Str := ["numbers"]
def d_polynomial_of : Def := ⟨1, 1, b_polynomial_of⟩
def b_chance_at : Sts := (.cons (.expr (.call f_need_factory (.cons (.var 0) .nil)))
  (.cons (.expr (.call f_need_bias (.cons (.var 1) .nil)))
  (.cons (.ret (.call f_raw_value (.cons (.call f_raw_polynomial (.cons (.var 0) .nil)) (.cons (.var 1) .nil))))
  .nil)))
def n_chance_at : List Str := ["numbers", "p"]
def d_chance_at : Def := ⟨2, 2, b_chance_at⟩
def b__law_deck : Sts := (.cons (.for_ (.nm 2) (.seq (.scrCut 0 63))
  (.cons (.asg 1 (.bin .mod (.bi .int (.cons (.bin .add (.bin .add (.bin .mul (.bor 1) (.int 48271)) (.bin .mod (.bi .int (.cons (.bor 2) .nil)) (.int 2147483629))) (.int 17)) .nil)) (.int 2147483587)))
  .nil))
  (.cons (.ret (.deckNew (.rev (.comp (.bi .int (.cons (.bor 2) .nil)) (.nm 2) (.seq (.scrCut 0 63)) .nil [2])) 1 0))
  .nil))
def n__law_deck : List Str := ["script", "mixed", "cell"]
def d__law_deck : Def := ⟨2, 3, b__law_deck⟩
def b__law_draw : Sts := (.cons (.deckPut 0 true (.bin .add (.deckGet 0 true) (.int 1)))
  (.cons (.asg 2 (.bin .add (.deckGet 0 false) (.bin .mul (.int 61473) (.deckGet 0 true))))
  (.cons (.deckPop 0 3 1
  (.cons (.ret (.bin .mod (.bi .int (.cons (.bor 3) .nil)) (.bor 1)))
  .nil)
  (.cons (.asg 2 (.bin .add (.bor 2) (.bin .mod (.bi .int (.cons (.bor 3) .nil)) (.int 2147483629))))
  .nil))
  (.cons (.asg 2 (.bin .mod (.bi .int (.cons (.bin .add (.bin .mul (.bor 2) (.int 39373)) (.int 77)) .nil)) (.int 2147483647)))
  (.cons (.asg 2 (.bin .mod (.bi .int (.cons (.bin .add (.bin .add (.bin .mul (.bor 2) (.bor 2)) (.bin .mul (.int 52713) (.deckGet 0 true))) (.int 31)) .nil)) (.int 2147483587)))
  (.cons (.ret (.bin .mod (.bi .int (.cons (.bin .fdiv (.bin .mod (.bi .int (.cons (.bin .mul (.bor 2) (.int 40692)) .nil)) (.int 2147483563)) (.int 64)) .nil)) (.bor 1)))
  .nil))))))
def n__law_draw : List Str := ["deck", "many", "number", "cell"]
def d__law_draw : Def := ⟨2, 4, b__law_draw⟩
def b__law_pick : Sts := (.cons (.ret (.idx (.bor 1) (.call f__law_draw (.cons (.var 0) (.cons (.bi .len (.cons (.bor 1) .nil)) .nil)))))
  .nil)
def n__law_pick : List Str := ["deck", "some"]
def d__law_pick : Def := ⟨2, 2, b__law_pick⟩
def b__law_same : Sts := (.cons (.asg 2 (.lst (.cons (.tup (.cons (.var 0) (.cons (.var 1) .nil))) .nil)))
  (.cons (.whil (.cmp .ne (.bor 2) (.lst .nil))
  (.cons (.asgT (.tp (.cons (.nm 3) (.cons (.nm 4) .nil))) (.pop 2))
  (.cons (.ite (.isin (.bor 3) [.tuple, .list])
  (.cons (.ite (.or (.not (.isin (.bor 4) [.tuple, .list])) (.or (.cmp .ne (.isin (.bor 3) [.tuple]) (.isin (.bor 4) [.tuple])) (.cmp .ne (.bi .len (.cons (.bor 3) .nil)) (.bi .len (.cons (.bor 4) .nil)))))
  (.cons (.ret (.bl false))
  .nil)
  .nil)
  (.cons (.extend 2 (.bi .listZip (.cons (.bor 3) (.cons (.bor 4) .nil))))
  .nil))
  (.cons (.ite (.isin (.bor 3) [.int, .str])
  (.cons (.ite (.or (.not (.isin (.bor 4) [.int, .str])) (.or (.cmp .ne (.isin (.bor 3) [.bool]) (.isin (.bor 4) [.bool])) (.cmp .ne (.bor 3) (.bor 4))))
  (.cons (.ret (.bl false))
  .nil)
  .nil)
  .nil)
  (.cons (.ite (.or (.cmp .notN (.bor 3) .non) (.cmp .notN (.bor 4) .non))
  (.cons (.ret (.bl false))
  .nil)
  .nil)
  .nil))
  .nil))
  .nil)))
  (.cons (.ret (.bl true))
  .nil)))
def n__law_same : List Str := ["told", "due", "todo", "one", "other"]
def d__law_same : Def := ⟨2, 5, b__law_same⟩
def b__law_low : Sts := (.cons (.par [2, 3] (.cons (.var 1) (.cons (.bi .abs (.cons (.bor 0) .nil)) .nil)))
  (.cons (.whil (.cmp .gt (.bor 3) (.int 0))
  (.cons (.par [2, 3] (.cons (.var 3) (.cons (.bin .mod (.bi .int (.cons (.bor 2) .nil)) (.bor 3)) .nil)))
  .nil))
  (.cons (.ret (.tup (.cons (.bin .fdiv (.bor 0) (.bor 2)) (.cons (.bin .fdiv (.bor 1) (.bor 2)) .nil))))
  .nil)))
def n__law_low : List Str := ["n", "d", "one", "other"]
def d__law_low : Def := ⟨2, 4, b__law_low⟩
def b__law_plus : Sts := (.cons (.ret (.call f__law_low (.cons (.bin .add (.bin .mul (.idx (.bor 0) (.int 0)) (.idx (.bor 1) (.int 1))) (.bin .mul (.idx (.bor 1) (.int 0)) (.idx (.bor 0) (.int 1)))) (.cons (.bin .mul (.idx (.bor 0) (.int 1)) (.idx (.bor 1) (.int 1))) .nil))))
  .nil)
def n__law_plus : List Str := ["a", "b"]
def d__law_plus : Def := ⟨2, 2, b__law_plus⟩
def b__law_times : Sts := (.cons (.ret (.call f__law_low (.cons (.bin .mul (.idx (.bor 0) (.int 0)) (.idx (.bor 1) (.int 0))) (.cons (.bin .mul (.idx (.bor 0) (.int 1)) (.idx (.bor 1) (.int 1))) .nil))))
  .nil)
def n__law_times : List Str := ["a", "b"]
def d__law_times : Def := ⟨2, 2, b__law_times⟩
def b__law_minus : Sts := (.cons (.ret (.call f__law_low (.cons (.bin .sub (.bin .mul (.idx (.bor 0) (.int 0)) (.idx (.bor 1) (.int 1))) (.bin .mul (.idx (.bor 1) (.int 0)) (.idx (.bor 0) (.int 1)))) (.cons (.bin .mul (.idx (.bor 0) (.int 1)) (.idx (.bor 1) (.int 1))) .nil))))
  .nil)
def n__law_minus : List Str := ["a", "b"]
def d__law_minus : Def := ⟨2, 2, b__law_minus⟩
def b__law_choose : Sts := (.cons (.asg 1 (.lst (.cons (.int 1) .nil)))
  (.cons (.for_ (.nm 2) (.rng1 (.var 0))
  (.cons (.asg 1 (.bin .add (.bin .add (.lst (.cons (.int 1) .nil)) (.comp (.bin .add (.bor 3) (.bor 4)) (.tp (.cons (.nm 3) (.cons (.nm 4) .nil))) (.zip (.var 1) (.slc (.bor 1) (.cons (.int 1) .nil) .nil)) .nil [3, 4])) (.lst (.cons (.int 1) .nil))))
  .nil))
  (.cons (.ret (.var 1))
  .nil)))
def n__law_choose : List Str := ["n", "row", "k", "x", "y"]
def d__law_choose : Def := ⟨1, 5, b__law_choose⟩
def b__law_cut : Sts := (.cons (.asg 1 (.bi .list (.cons (.bor 0) .nil)))
  (.cons (.whil (.and (.cmp .ne (.bor 1) (.lst .nil)) (.cmp .eq (.idx (.idx (.bor 1) (.neg (.int 1))) (.int 0)) (.int 0)))
  (.cons (.expr (.pop 1))
  .nil))
  (.cons (.ret (.bi .tuple (.cons (.bor 1) .nil)))
  .nil)))
def n__law_cut : List Str := ["poly", "row"]
def d__law_cut : Def := ⟨1, 2, b__law_cut⟩
def b__law_value : Sts := (.cons (.asg 2 (.tup (.cons (.int 0) (.cons (.int 1) .nil))))
  (.cons (.for_ (.nm 3) (.seq (.rev (.bor 0)))
  (.cons (.asg 2 (.call f__law_plus (.cons (.call f__law_times (.cons (.var 2) (.cons (.var 1) .nil))) (.cons (.var 3) .nil))))
  .nil))
  (.cons (.ret (.var 2))
  .nil)))
def n__law_value : List Str := ["poly", "x", "found", "a"]
def d__law_value : Def := ⟨2, 4, b__law_value⟩
def b__law_numbers : Sts := (.cons (.par [2, 3] (.cons (.comp (.call f__law_choose (.cons (.var 4) .nil)) (.nm 4) (.rng1 (.bin .add (.bor 1) (.int 1))) .nil [4]) (.cons (.lst .nil) .nil)))
  (.cons (.for_ (.nm 4) (.rng1 (.bin .add (.bor 1) (.int 1)))
  (.cons (.asg 5 (.tup (.cons (.int 0) (.cons (.int 1) .nil))))
  (.cons (.for_ (.tp (.cons (.nm 6) (.cons (.nm 7) .nil))) (.enum (.slc (.bor 0) .nil (.cons (.bin .add (.bor 4) (.int 1)) .nil)))
  (.cons (.asg 5 (.call f__law_plus (.cons (.var 5) (.cons (.call f__law_times (.cons (.var 7) (.cons (.tup (.cons (.idx (.idx (.bor 2) (.bor 4)) (.bor 6)) (.cons (.idx (.idx (.bor 2) (.bor 1)) (.bor 6)) .nil))) .nil))) .nil))))
  .nil))
  (.cons (.append 3 (.var 5))
  .nil))))
  (.cons (.ret (.bi .tuple (.cons (.bor 3) .nil)))
  .nil)))
def n__law_numbers : List Str := ["poly", "n", "rows", "found", "k", "total_v", "j", "a"]
def d__law_numbers : Def := ⟨2, 8, b__law_numbers⟩
def b__law_polynomial : Sts := (.cons (.par [1, 2, 3] (.cons (.bin .sub (.bi .len (.cons (.bor 0) .nil)) (.int 1)) (.cons (.bi .list (.cons (.bor 0) .nil)) (.cons (.lst .nil) .nil))))
  (.cons (.asg 4 (.call f__law_choose (.cons (.var 1) .nil)))
  (.cons (.for_ (.nm 5) (.rng1 (.bin .add (.bor 1) (.int 1)))
  (.cons (.append 3 (.call f__law_times (.cons (.idx (.bor 2) (.int 0)) (.cons (.tup (.cons (.idx (.bor 4) (.bor 5)) (.cons (.int 1) .nil))) .nil))))
  (.cons (.asg 2 (.comp (.call f__law_minus (.cons (.var 7) (.cons (.var 6) .nil))) (.tp (.cons (.nm 6) (.cons (.nm 7) .nil))) (.zip (.var 2) (.slc (.bor 2) (.cons (.int 1) .nil) .nil)) .nil [6, 7]))
  .nil)))
  (.cons (.ret (.call f__law_cut (.cons (.var 3) .nil)))
  .nil))))
def n__law_polynomial : List Str := ["numbers", "n", "row", "found", "some", "j", "a", "b"]
def d__law_polynomial : Def := ⟨1, 8, b__law_polynomial⟩
def b__law_chance : Sts := (.cons (.par [2, 3] (.cons (.bin .sub (.bi .len (.cons (.bor 0) .nil)) (.int 1)) (.cons (.tup (.cons (.int 0) (.cons (.int 1) .nil))) .nil)))
  (.cons (.par [4, 5] (.cons (.call f__law_choose (.cons (.var 2) .nil)) (.cons (.call f__law_minus (.cons (.tup (.cons (.int 1) (.cons (.int 1) .nil))) (.cons (.var 1) .nil))) .nil)))
  (.cons (.par [6, 7] (.cons (.lst (.cons (.tup (.cons (.int 1) (.cons (.int 1) .nil))) .nil)) (.cons (.lst (.cons (.tup (.cons (.int 1) (.cons (.int 1) .nil))) .nil)) .nil)))
  (.cons (.for_ (.nm 8) (.rng1 (.var 2))
  (.cons (.append 6 (.call f__law_times (.cons (.idx (.bor 6) (.neg (.int 1))) (.cons (.var 1) .nil))))
  (.cons (.append 7 (.call f__law_times (.cons (.idx (.bor 7) (.neg (.int 1))) (.cons (.var 5) .nil))))
  .nil)))
  (.cons (.for_ (.tp (.cons (.nm 8) (.cons (.nm 9) .nil))) (.enum (.var 0))
  (.cons (.asg 3 (.call f__law_plus (.cons (.var 3) (.cons (.call f__law_times (.cons (.call f__law_times (.cons (.var 9) (.cons (.tup (.cons (.idx (.bor 4) (.bor 8)) (.cons (.int 1) .nil))) .nil))) (.cons (.call f__law_times (.cons (.idx (.bor 6) (.bor 8)) (.cons (.idx (.bor 7) (.bin .sub (.bor 2) (.bor 8))) .nil))) .nil))) .nil))))
  .nil))
  (.cons (.ret (.var 3))
  .nil))))))
def n__law_chance : List Str := ["numbers", "p", "n", "found", "some", "less", "powers", "others", "k", "b"]
def d__law_chance : Def := ⟨2, 10, b__law_chance⟩
def b__law_any_fraction : Sts := (.cons (.asg 3 (.bin .add (.int 1) (.call f__law_draw (.cons (.var 0) (.cons (.var 2) .nil)))))
  (.cons (.ret (.call f__law_low (.cons (.bin .sub (.call f__law_draw (.cons (.var 0) (.cons (.bin .add (.bin .mul (.int 2) (.bor 1)) (.int 1)) .nil))) (.bor 1)) (.cons (.var 3) .nil))))
  .nil))
def n__law_any_fraction : List Str := ["deck", "top", "bottom", "d"]
def d__law_any_fraction : Def := ⟨3, 4, b__law_any_fraction⟩
def b__law_share : Sts := (.cons (.asg 2 (.bin .add (.int 1) (.call f__law_draw (.cons (.var 0) (.cons (.var 1) .nil)))))
  (.cons (.ret (.call f__law_pick (.cons (.var 0) (.cons (.lst (.cons (.tup (.cons (.int 0) (.cons (.int 1) .nil))) (.cons (.tup (.cons (.int 1) (.cons (.int 1) .nil))) (.cons (.tup (.cons (.int 1) (.cons (.int 2) .nil))) (.cons (.call f__law_low (.cons (.call f__law_draw (.cons (.var 0) (.cons (.bin .add (.bor 2) (.int 1)) .nil))) (.cons (.var 2) .nil))) (.cons (.call f__law_low (.cons (.call f__law_draw (.cons (.var 0) (.cons (.bin .add (.bor 2) (.int 1)) .nil))) (.cons (.var 2) .nil))) (.cons (.call f__law_low (.cons (.call f__law_draw (.cons (.var 0) (.cons (.bin .add (.bor 2) (.int 1)) .nil))) (.cons (.var 2) .nil))) .nil))))))) .nil))))
  .nil))
def n__law_share : List Str := ["deck", "bottom", "d"]
def d__law_share : Def := ⟨2, 3, b__law_share⟩
def b__law_bias : Sts := (.cons (.asg 2 (.bin .add (.int 2) (.call f__law_draw (.cons (.var 0) (.cons (.bin .sub (.bor 1) (.int 1)) .nil)))))
  (.cons (.ret (.call f__law_low (.cons (.bin .add (.int 1) (.call f__law_draw (.cons (.var 0) (.cons (.bin .sub (.bor 2) (.int 1)) .nil)))) (.cons (.var 2) .nil))))
  .nil))
def n__law_bias : List Str := ["deck", "bottom", "d"]
def d__law_bias : Def := ⟨2, 3, b__law_bias⟩
def b__law_poly : Sts := (.cons (.ret (.call f__law_cut (.cons (.comp (.call f__law_any_fraction (.cons (.var 0) (.cons (.var 2) (.cons (.var 3) .nil)))) (.nm 4) (.rng1 (.bin .add (.bor 1) (.int 1))) .nil [4]) .nil)))
  .nil)
def n__law_poly : List Str := ["deck", "degree", "top", "bottom", "k"]
def d__law_poly : Def := ⟨4, 5, b__law_poly⟩
def b__law_is_poly_right : Sts := (.cons (.par [3, 4] (.cons (.call f__law_value (.cons (.var 0) (.cons (.var 1) .nil))) (.cons (.bi .repr (.cons (.tup (.cons (.var 0) (.cons (.var 1) .nil))) .nil)) .nil)))
  (.cons (.ite (.not (.call f__law_same (.cons (.lst (.cons (.call f_value_at (.cons (.var 0) (.cons (.var 1) .nil))) (.cons (.callK f_value_at .nil (.cons (.var 1) (.cons (.var 0) .nil)) [1, 0]) .nil))) (.cons (.lst (.cons (.var 3) (.cons (.var 3) .nil))) .nil))))
  (.cons (.ret (.bl false))
  .nil)
  .nil)
  (.cons (.asg 5 (.call f__law_numbers (.cons (.var 0) (.cons (.var 2) .nil))))
  (.cons (.ite (.not (.call f__law_same (.cons (.lst (.cons (.call f_numbers_of (.cons (.var 0) (.cons (.var 2) .nil))) (.cons (.callK f_numbers_of .nil (.cons (.var 2) (.cons (.var 0) .nil)) [1, 0]) .nil))) (.cons (.lst (.cons (.var 5) (.cons (.var 5) .nil))) .nil))))
  (.cons (.ret (.bl false))
  .nil)
  .nil)
  (.cons (.ret (.and (.cmp .eq (.call f__law_polynomial (.cons (.var 5) .nil)) (.bor 0)) (.cmp .eq (.bi .repr (.cons (.tup (.cons (.var 0) (.cons (.var 1) .nil))) .nil)) (.bor 4))))
  .nil)))))
def n__law_is_poly_right : List Str := ["poly", "x", "n", "due", "kept", "numbers"]
def d__law_is_poly_right : Def := ⟨3, 6, b__law_is_poly_right⟩
def b__law_is_factory_right : Sts := (.cons (.par [2, 3] (.cons (.call f__law_polynomial (.cons (.var 1) .nil)) (.cons (.bi .repr (.cons (.bor 1) .nil)) .nil)))
  (.cons (.ite (.not (.call f__law_same (.cons (.lst (.cons (.call f_polynomial_of (.cons (.var 1) .nil)) (.cons (.callK f_polynomial_of .nil (.cons (.var 1) .nil) [0]) .nil))) (.cons (.lst (.cons (.var 2) (.cons (.var 2) .nil))) .nil))))
  (.cons (.ret (.bl false))
  .nil)
  .nil)
  (.cons (.for_ (.nm 4) (.seq (.tup (.cons (.int 3) (.cons (.int 12) (.cons (.int 1000) .nil)))))
  (.cons (.asg 5 (.call f__law_bias (.cons (.var 0) (.cons (.var 4) .nil))))
  (.cons (.asg 6 (.call f__law_chance (.cons (.var 1) (.cons (.var 5) .nil))))
  (.cons (.ite (.or (.not (.call f__law_same (.cons (.lst (.cons (.call f_chance_at (.cons (.var 1) (.cons (.var 5) .nil))) (.cons (.callK f_chance_at .nil (.cons (.var 5) (.cons (.var 1) .nil)) [1, 0]) .nil))) (.cons (.lst (.cons (.var 6) (.cons (.var 6) .nil))) .nil)))) (.cmp .ne (.call f__law_value (.cons (.var 2) (.cons (.var 5) .nil))) (.bor 6)))
  (.cons (.ret (.bl false))
  .nil)
  .nil)
  .nil))))
  (.cons (.ite (.and (.cmp .lt (.bi .len (.cons (.bor 2) .nil)) (.int 10)) (.not (.call f__law_same (.cons (.call f_numbers_of (.cons (.var 2) (.cons (.bin .sub (.bi .len (.cons (.bor 1) .nil)) (.int 1)) .nil))) (.cons (.var 1) .nil)))))
  (.cons (.ret (.bl false))
  .nil)
  .nil)
  (.cons (.ret (.cmp .eq (.bi .repr (.cons (.bor 1) .nil)) (.bor 3)))
  .nil)))))
def n__law_is_factory_right : List Str := ["deck", "numbers", "poly", "kept", "bottom", "p", "due"]
def d__law_is_factory_right : Def := ⟨2, 7, b__law_is_factory_right⟩
def b_law : Sts := (.cons (.asg 1 (.call f__law_deck (.cons (.var 0) (.cons (.int 19423092) .nil))))
  (.cons (.for_ (.nm 2) (.rng1 (.int 2))
  (.cons (.asg 3 (.call f__law_draw (.cons (.var 1) (.cons (.int 9) .nil))))
  (.cons (.asg 4 (.call f__law_poly (.cons (.var 1) (.cons (.var 3) (.cons (.call f__law_pick (.cons (.var 1) (.cons (.lst (.cons (.int 1) (.cons (.int 9) (.cons (.int 1000) (.cons (.bin .pow (.int 10) (.int 12)) .nil))))) .nil))) (.cons (.call f__law_pick (.cons (.var 1) (.cons (.lst (.cons (.int 1) (.cons (.int 6) (.cons (.int 1000) (.cons (.bin .pow (.int 10) (.int 12)) .nil))))) .nil))) .nil))))))
  (.cons (.asg 5 (.call f__law_pick (.cons (.var 1) (.cons (.lst (.cons (.tup (.cons (.int 0) (.cons (.int 1) .nil))) (.cons (.tup (.cons (.int 1) (.cons (.int 1) .nil))) (.cons (.call f__law_any_fraction (.cons (.var 1) (.cons (.int 9) (.cons (.int 9) .nil)))) (.cons (.call f__law_any_fraction (.cons (.var 1) (.cons (.bin .pow (.int 10) (.int 12)) (.cons (.bin .pow (.int 10) (.int 12)) .nil)))) (.cons (.call f__law_bias (.cons (.var 1) (.cons (.int 12) .nil))) .nil)))))) .nil))))
  (.cons (.asg 6 (.bi .max2 (.cons (.int 0) (.cons (.bin .sub (.bi .len (.cons (.bor 4) .nil)) (.int 1)) .nil))))
  (.cons (.asg 6 (.ife (.cmp .gt (.call f__law_draw (.cons (.var 1) (.cons (.int 8) .nil))) (.int 0)) (.call f__law_pick (.cons (.var 1) (.cons (.lst (.cons (.var 6) (.cons (.bi .min2 (.cons (.int 40) (.cons (.bin .add (.bor 6) (.call f__law_draw (.cons (.var 1) (.cons (.int 6) .nil)))) .nil))) .nil))) .nil))) (.int 40)))
  (.cons (.ite (.not (.call f__law_is_poly_right (.cons (.var 4) (.cons (.var 5) (.cons (.var 6) .nil)))))
  (.cons (.ret (.bl false))
  .nil)
  .nil)
  .nil)))))))
  (.cons (.asg 7 (.ife (.cmp .gt (.call f__law_draw (.cons (.var 1) (.cons (.int 12) .nil))) (.int 0)) (.call f__law_pick (.cons (.var 1) (.cons (.lst (.cons (.int 1) (.cons (.int 2) (.cons (.int 3) (.cons (.int 4) (.cons (.int 6) (.cons (.int 9) .nil))))))) .nil))) (.bin .add (.int 10) (.call f__law_draw (.cons (.var 1) (.cons (.int 32) .nil))))))
  (.cons (.asg 8 (.call f__law_pick (.cons (.var 1) (.cons (.lst (.cons (.int 1) (.cons (.int 4) (.cons (.int 12) (.cons (.int 1000) .nil))))) .nil))))
  (.cons (.ret (.call f__law_is_factory_right (.cons (.var 1) (.cons (.bi .tuple (.cons (.comp (.call f__law_share (.cons (.var 1) (.cons (.var 8) .nil))) (.nm 9) (.rng1 (.var 7)) .nil [9]) .nil)) .nil))))
  .nil)))))
def n_law : List Str := ["script", "deck", "turn", "degree", "poly", "x", "n", "many", "bottom", "k"]
def d_law : Def := ⟨1, 10, b_law⟩
def P : Nat → Option Def
  | 0 => some d_is_integer
  | 1 => some d_is_between
  | 2 => some d_divisor_of
  | 3 => some d_is_fraction_value
  | 4 => some d_lowest
  | 5 => some d_plus
  | 6 => some d_times
  | 7 => some d_total
  | 8 => some d_is_less
  | 9 => some d_is_at_most
  | 10 => some d_is_bias
  | 11 => some d_need_bias
  | 12 => some d_is_polynomial_value
  | 13 => some d_need_polynomial
  | 14 => some d_is_chance
  | 15 => some d_is_factory_value
  | 16 => some d_need_factory
  | 17 => some d_raw_value
  | 18 => some d_degree_of
  | 19 => some d_raw_numbers
  | 20 => some d_without_noughts
  | 21 => some d_raw_polynomial
  | 22 => some d_value_at
  | 23 => some d_numbers_of
  | 24 => some d_polynomial_of
  | 25 => some d_chance_at
  | 26 => some d__law_deck
  | 27 => some d__law_draw
  | 28 => some d__law_pick
  | 29 => some d__law_same
  | 30 => some d__law_low
  | 31 => some d__law_plus
  | 32 => some d__law_times
  | 33 => some d__law_minus
  | 34 => some d__law_choose
  | 35 => some d__law_cut
  | 36 => some d__law_value
  | 37 => some d__law_numbers
  | 38 => some d__law_polynomial
  | 39 => some d__law_chance
  | 40 => some d__law_any_fraction
  | 41 => some d__law_share
  | 42 => some d__law_bias
  | 43 => some d__law_poly
  | 44 => some d__law_is_poly_right
  | 45 => some d__law_is_factory_right
  | 46 => some d_law
  | _ => none
end K92
end

section
set_option linter.all false
/-! Sums with binomial numbers over rationals: differences, the polynomial of numbers, the numbers of a polynomial, the mean over rows. -/
namespace RR
open TP (choose)
abbrev Sq := Nat → Rat
def sm : Nat → Sq → Rat
  | 0, _ => 0
  | n + 1, f => sm n f + f n
def E (b : Sq) : Sq := fun k => b (k + 1)
def Dl (b : Sq) : Sq := fun k => b (k + 1) - b k
def It : Nat → Sq → Sq
  | 0, b => b
  | n + 1, b => It n (Dl b)
def C (n k : Nat) : Rat := (choose n k : Nat)
/-- the sum of C(n, i) * x i, up to n -/
def P (n : Nat) (x : Sq) : Rat := sm (n + 1) fun i => C n i * x i
theorem sm_congr {n : Nat} {f g : Sq} (h : ∀ i, i < n → f i = g i) : sm n f = sm n g := by
  induction n with
  | zero => rfl
  | succ n ih => rw [sm, sm, ih fun i hi => h i (by omega), h n (by omega)]
theorem sm_add (n : Nat) (f g : Sq) : sm n (fun i => f i + g i) = sm n f + sm n g := by
  induction n with
  | zero =>
    show (0 : Rat) = 0 + 0
    grind
  | succ n ih => rw [sm, sm, sm, ih]; grind
theorem sm_mul (n : Nat) (a : Rat) (f : Sq) : sm n (fun i => a * f i) = a * sm n f := by
  induction n with
  | zero => simp [sm]
  | succ n ih => rw [sm, sm, ih]; grind
theorem sm_head (n : Nat) (f : Sq) : sm (n + 1) f = f 0 + sm n (E f) := by
  induction n with
  | zero =>
    show (0 : Rat) + f 0 = f 0 + 0
    grind
  | succ n ih =>
    rw [sm, ih, sm]
    show f 0 + sm n (E f) + f (n + 1) = f 0 + (sm n (E f) + f (n + 1))
    grind
theorem C_zero (n : Nat) : C n 0 = 1 := by
  unfold C
  cases n <;> simp [choose]
theorem C_succ (n k : Nat) : C (n + 1) (k + 1) = C n k + C n (k + 1) := by
  unfold C
  rw [choose]
  simp
theorem choose_gt : ∀ (n k : Nat), n < k → choose n k = 0
  | 0, 0, h => by omega
  | 0, k + 1, _ => rfl
  | n + 1, 0, h => by omega
  | n + 1, k + 1, h => by rw [choose, choose_gt n k (by omega), choose_gt n (k + 1) (by omega)]
theorem choose_pos : ∀ (n k : Nat), k ≤ n → 0 < choose n k
  | n, 0, _ => by cases n <;> simp [choose]
  | 0, k + 1, h => by omega
  | n + 1, k + 1, h => by
    rw [choose]
    have := choose_pos n k (by omega)
    omega
theorem C_top (n : Nat) : C n (n + 1) = 0 := by
  unfold C
  rw [choose_gt n (n + 1) (by omega)]
  simp
theorem P_succ (n : Nat) (x : Sq) : P (n + 1) x = P n x + P n (E x) := by
  have h1 : P (n + 1) x = C (n + 1) 0 * x 0 + sm (n + 1) fun i => C (n + 1) (i + 1) * x (i + 1) := sm_head (n + 1) _
  have h2 : (sm (n + 1) fun i => C (n + 1) (i + 1) * x (i + 1)) = sm (n + 1) (fun i => C n i * E x i) + sm (n + 1) fun i => C n (i + 1) * x (i + 1) := by
    rw [← sm_add]
    refine sm_congr fun i _ => ?_
    rw [C_succ]
    show _ = C n i * x (i + 1) + _
    grind
  have h3 : P n x = C n 0 * x 0 + sm n fun i => C n (i + 1) * x (i + 1) := sm_head n _
  have h4 : (sm (n + 1) fun i => C n (i + 1) * x (i + 1)) = sm n fun i => C n (i + 1) * x (i + 1) := by
    rw [sm, C_top]
    grind
  have h5 : P n (E x) = sm (n + 1) fun i => C n i * E x i := rfl
  rw [h1, h2, h3, h4, h5, C_zero, C_zero]
  grind
theorem P_zero (x : Sq) : P 0 x = x 0 := by
  unfold P
  rw [sm, sm, C_zero]
  grind
theorem P_congr {n : Nat} {x y : Sq} (h : ∀ i, i ≤ n → x i = y i) : P n x = P n y := sm_congr fun i hi => by rw [h i (by omega)]
theorem P_add (n : Nat) (x y : Sq) : P n (fun i => x i + y i) = P n x + P n y := by
  unfold P
  rw [← sm_add]
  exact sm_congr fun i _ => by grind
theorem P_mul (n : Nat) (a : Rat) (x : Sq) : P n (fun i => a * x i) = a * P n x := by
  unfold P
  rw [← sm_mul]
  exact sm_congr fun i _ => by grind
theorem It_Dl : ∀ (n : Nat) (b : Sq), It n (Dl b) = Dl (It n b)
  | 0, b => rfl
  | n + 1, b => by rw [It, It_Dl n (Dl b), It]
theorem It_add : ∀ (n : Nat) (b c : Sq) (k : Nat), It n (fun i => b i + c i) k = It n b k + It n c k
  | 0, b, c, k => rfl
  | n + 1, b, c, k => by
    have e : Dl (fun i => b i + c i) = fun i => Dl b i + Dl c i := by
      funext i
      simp only [Dl]
      grind
    rw [It, e, It_add n]
    rfl
theorem E_eq (b : Sq) : E b = fun i => b i + Dl b i := by
  funext i
  simp only [E, Dl]
  grind
/-- b k by differences -/
theorem newton : ∀ (k : Nat) (b : Sq), P k (fun i => It i b 0) = b k
  | 0, b => P_zero _
  | k + 1, b => by
    have e : E (fun i => It i b 0) = fun i => It i (Dl b) 0 := rfl
    rw [P_succ, newton k b, e, newton k (Dl b)]
    simp only [Dl]
    grind
/-- differences of numbers of that kind: its factors -/
theorem diff_P : ∀ (j : Nat) (c : Sq) (k : Nat), It j (fun k => P k c) k = P k (fun i => c (i + j))
  | 0, c, k => rfl
  | j + 1, c, k => by
    have e : Dl (fun k => P k c) = fun k => P k (E c) := by
      funext k
      simp only [Dl]
      rw [P_succ]
      grind
    rw [It, e, diff_P j (E c) k]
    refine P_congr fun i _ => ?_
    show c (i + j + 1) = c (i + (j + 1))
    rfl
theorem diff_P0 (j : Nat) (c : Sq) : It j (fun k => P k c) 0 = c j := by
  rw [diff_P, P_zero, Nat.zero_add]
def sgn (m : Nat) : Rat := if m % 2 = 0 then 1 else -1
theorem sgn_succ (m : Nat) : sgn (m + 1) = -sgn m := by
  unfold sgn
  by_cases h : m % 2 = 0
  · rw [if_neg (by omega), if_pos h]
  · rw [if_pos (by omega), if_neg h]; grind
/-- a difference by signs -/
theorem signed : ∀ (i : Nat) (b : Sq), P i (fun j => sgn (i - j) * b j) = It i b 0
  | 0, b => by
    rw [P_zero]
    show sgn 0 * b 0 = b 0
    rw [show sgn 0 = 1 from rfl]
    grind
  | i + 1, b => by
    rw [P_succ, It, ← signed i (Dl b)]
    have e1 : P i (fun j => sgn (i + 1 - j) * b j) = P i (fun j => (-1) * (sgn (i - j) * b j)) := P_congr fun j hj => by
      rw [show i + 1 - j = (i - j) + 1 by omega, sgn_succ]
      grind
    have e2 : P i (E fun j => sgn (i + 1 - j) * b j) = P i (fun j => sgn (i - j) * b (j + 1)) := P_congr fun j hj => by
      show sgn (i + 1 - (j + 1)) * b (j + 1) = _
      rw [show i + 1 - (j + 1) = i - j by omega]
    rw [e1, P_mul, e2]
    have e3 : P i (fun j => sgn (i - j) * Dl b j) = P i (fun j => sgn (i - j) * b (j + 1)) + (-1) * P i (fun j => sgn (i - j) * b j) := by
      rw [← P_mul, ← P_add]
      refine P_congr fun j _ => ?_
      simp only [Dl]
      grind
    rw [e3]
    grind
def pw (p : Rat) : Nat → Rat
  | 0 => 1
  | n + 1 => pw p n * p
/-- the mean over rows is the value of the polynomial -/
theorem rows : ∀ (n : Nat) (b : Sq) (p q : Rat), p + q = 1 → P n (fun k => b k * (pw p k * pw q (n - k))) = P n (fun i => It i b 0 * pw p i)
  | 0, b, p, q, h => by
    rw [P_zero, P_zero]
    show b 0 * (1 * 1) = b 0 * 1
    grind
  | n + 1, b, p, q, h => by
    rw [P_succ, P_succ]
    have e1 : P n (fun k => b k * (pw p k * pw q (n + 1 - k))) = q * P n (fun k => b k * (pw p k * pw q (n - k))) := by
      rw [← P_mul]
      refine P_congr fun k hk => ?_
      rw [show n + 1 - k = (n - k) + 1 by omega, pw]
      grind
    have e2 : P n (E fun k => b k * (pw p k * pw q (n + 1 - k))) = p * P n (fun k => E b k * (pw p k * pw q (n - k))) := by
      rw [← P_mul]
      refine P_congr fun k hk => ?_
      show b (k + 1) * (pw p (k + 1) * pw q (n + 1 - (k + 1))) = p * (b (k + 1) * (pw p k * pw q (n - k)))
      rw [show n + 1 - (k + 1) = n - k by omega, pw]
      grind
    have e3 : P n (E fun i => It i b 0 * pw p i) = p * P n (fun i => It i (Dl b) 0 * pw p i) := by
      rw [← P_mul]
      refine P_congr fun i _ => ?_
      show It i (Dl b) 0 * (pw p i * p) = _
      grind
    have e4 : P n (fun i => It i (E b) 0 * pw p i) = P n (fun i => It i b 0 * pw p i) + P n (fun i => It i (Dl b) 0 * pw p i) := by
      rw [← P_add]
      refine P_congr fun i _ => ?_
      rw [E_eq, It_add]
      grind
    rw [e1, e2, e3, rows n b p q h, rows n (E b) p q h, e4]
    have hq : q = 1 - p := by grind
    subst hq
    grind
end RR
end

section
set_option linter.all false
set_option maxRecDepth 100000
open TP
namespace K92
def isWhole : D → Bool
  | .int _ => true
  | _ => false
def between (x : D) (a b : Int) : Bool := match x with
  | .int i => decide (a ≤ i) && decide (i ≤ b)
  | _ => false
variable {prim : Nat → List Vl → M Vl} {n k : Nat}
theorem is_integer_eq (x : D) : call P prim n (k + 1) f_is_integer [.d x] = .ret (.d (.bool (isWhole x))) := by
  rw [call_s (d := d_is_integer) (h := rfl), run_eq _ _ rfl]
  cases x <;> simp -dsimp -implicitDefEqProofs [d_is_integer, b_is_integer, isVar, isinD, isT, isWhole]
theorem is_between_eq (x : D) (a b : Int) : call P prim n (k + 2) f_is_between [.d x, .d (.int a), .d (.int b)] = .ret (.d (.bool (between x a b))) := by
  rw [call_s (d := d_is_between) (h := rfl), run_eq _ _ rfl]
  cases x with
  | int i => by_cases h : a ≤ i <;> simp -dsimp -implicitDefEqProofs [d_is_between, b_is_between, isVar, isWhole, rdVar_eq, is_integer_eq, between, h]
  | _ => simp -dsimp -implicitDefEqProofs [d_is_between, b_is_between, isVar, isWhole, rdVar_eq, is_integer_eq, between]
end K92

namespace K92
variable {prim : Nat → List Vl → M Vl} {n k : Nat}
theorem gcd_step (a b : Nat) (h : b ≠ 0) : Nat.gcd a b = Nat.gcd b (a % b) := by
  rw [Nat.gcd_comm a b, Nat.gcd_rec b a, Nat.gcd_comm]
theorem div_loop {G : G1} : ∀ (b a m : Nat), b < m → whileE G n (.cmp .ne (.bor 1) (.int 0)) (.cons (.par [0, 1] (.cons (.var 1) (.cons (.bin .mod (.bor 0) (.bor 1)) .nil))) .nil) m [some (.d (.int a)), some (.d (.int b))] = .ret (.nx [some (.d (.int (Nat.gcd a b))), some (.d (.int 0))]) := by
  intro b
  induction b using Nat.strongRecOn with
  | ind b ih =>
    intro a m hm
    obtain ⟨m, rfl⟩ : ∃ m', m = m' + 1 := ⟨m - 1, by omega⟩
    rw [whileE_s]
    by_cases hb : b = 0
    · subst hb
      simp -dsimp -implicitDefEqProofs
    · have h2 : a % b < b := Nat.mod_lt _ (by omega)
      have h3 := ih (a % b) h2 b m (by omega)
      have h4 : 0 < b := by omega
      have h5 : ((a % b : Nat) : Int) = (a : Int) % (b : Int) := by omega
      rw [h5] at h3
      simp -dsimp -implicitDefEqProofs [rdVar_eq, hb, h4]
      rw [gcd_step a b hb]
      exact h3
theorem divisor_of_eq (a b : Int) (hb : 0 ≤ b) (hn : b.toNat < n) : call P prim n (k + 1) f_divisor_of [.d (.int a), .d (.int b)] = .ret (.d (.int (Int.gcd a b))) := by
  rw [call_s (d := d_divisor_of) (h := rfl), run_eq _ _ rfl]
  have h := div_loop (n := n) (G := call P prim n k) b.toNat a.natAbs n hn
  have e : (if a < 0 then -a else a) = (a.natAbs : Int) := by omega
  have e2 : (b.toNat : Int) = b := by omega
  have e3 : Nat.gcd a.natAbs b.toNat = Int.gcd a b := by
    unfold Int.gcd
    congr 1
    omega
  rw [e2, e3] at h
  simp -dsimp -implicitDefEqProofs [d_divisor_of, b_divisor_of, e]
  rw [h]
  simp -dsimp -implicitDefEqProofs [isVar]
end K92

namespace K92
variable {prim : Nat → List Vl → M Vl} {n k : Nat}
def isFrac (x : D) : Bool := match x with
  | .tuple [.int a, .int b] => decide (0 < b) && decide (Int.gcd a b = 1)
  | _ => false
theorem atI2 (a b : D) : L2.atI [a, b] 0 = some a ∧ L2.atI [a, b] 1 = some b := by
  constructor <;> simp [L2.atI, L2.ixN]
/-- fuel enough for ints of 1920 bits -/
def Big (n : Nat) : Prop := 2 ^ 1920 ≤ n
theorem fuel_of {b : Int} (hn : Big n) (hb : b.natAbs.log2 < 1920) : b.toNat < n := by
  have h : b.natAbs < 2 ^ 1920 := (Nat.lt_or_ge b.natAbs (2 ^ 1920)).resolve_right fun h => by
    have : 1920 ≤ b.natAbs.log2 := (Nat.le_log2 (by have := Nat.two_pow_pos 1920; omega)).mpr h
    omega
  have hn' : 2 ^ 1920 ≤ n := hn
  generalize 2 ^ 1920 = z at h hn'
  omega
theorem show2 {a b : D} (h : (PySem.PyData.tuple [a, b]).showable = true) : a.showable = true ∧ b.showable = true := by
  simpa [PySem.PyData.showable, PySem.PyData.showableAll] using h
theorem is_fraction_eq (x : D) (hn : Big n) (hx : x.showable = true) : call P prim n (k + 2) f_is_fraction_value [.d x] = .ret (.d (.bool (isFrac x))) := by
  rw [call_s (d := d_is_fraction_value) (h := rfl), run_eq _ _ rfl]
  cases x with
  | tuple xs =>
    by_cases h : xs.length = 2
    · match xs, h with
      | [a, b], _ =>
        obtain ⟨e1, e2⟩ := atI2 a b
        cases a with
        | int a =>
          cases b with
          | int b =>
            have hb : b.natAbs.log2 < 1920 := by simpa [PySem.PyData.showable] using (show2 hx).2
            by_cases hp : 0 < b
            · simp -dsimp -implicitDefEqProofs [d_is_fraction_value, b_is_fraction_value, isinD, isT, e1, e2, is_integer_eq, isWhole, isVar, isFrac, hp, divisor_of_eq a b (by omega) (fuel_of hn hb)]
              omega
            · simp -dsimp -implicitDefEqProofs [d_is_fraction_value, b_is_fraction_value, isinD, isT, e1, e2, is_integer_eq, isWhole, isVar, isFrac, hp]
          | _ => simp -dsimp -implicitDefEqProofs [d_is_fraction_value, b_is_fraction_value, isinD, isT, e1, e2, is_integer_eq, isWhole, isVar, isFrac]
        | _ => simp -dsimp -implicitDefEqProofs [d_is_fraction_value, b_is_fraction_value, isinD, isT, e1, e2, is_integer_eq, isWhole, isVar, isFrac]
    · have h' : ¬ ((xs.length : Int) = 2) := by omega
      have e : isFrac (.tuple xs) = false := by
        unfold isFrac
        split
        · rename_i heq
          cases heq
          exact absurd rfl h
        · rfl
      simp -dsimp -implicitDefEqProofs [d_is_fraction_value, b_is_fraction_value, isinD, isT, h', isVar, e]
  | _ => simp -dsimp -implicitDefEqProofs [d_is_fraction_value, b_is_fraction_value, isinD, isT, isFrac, isVar]
end K92

namespace K92
variable {prim : Nat → List Vl → M Vl} {n k : Nat}
open PySem.PyData in
theorem isFrac_iff {x : D} (h : isFrac x = true) : ∃ a b : Int, x = .tuple [.int a, .int b] ∧ 0 < b ∧ Int.gcd a b = 1 := by
  unfold isFrac at h
  split at h
  · rename_i a b
    simp at h
    exact ⟨a, b, rfl, h⟩
  · cases h
theorem bits_of {i : Int} (h : i.natAbs.log2 < 1920) : PySem.Builtin.Int.intBits i ≤ 1920 := by
  unfold PySem.Builtin.Int.intBits
  split <;> omega
theorem big1_of {i j : Int} (hi : i.natAbs.log2 < 1920) (hj : j.natAbs.log2 < 1920) : big1 i j := PySem.IntMulOk.of_le (bits_of hi) (bits_of hj) (by decide)
theorem show_frac {a b : Int} (h : (PySem.PyData.tuple [.int a, .int b]).showable = true) : a.natAbs.log2 < 1920 ∧ b.natAbs.log2 < 1920 := by
  obtain ⟨h1, h2⟩ := show2 h
  exact ⟨by simpa [PySem.PyData.showable] using h1, by simpa [PySem.PyData.showable] using h2⟩
theorem is_at_most_eq (a b c d : Int) (h1 : big1 a d) (h2 : big1 c b) : call P prim n (k + 1) f_is_at_most [.d (.tuple [.int a, .int b]), .d (.tuple [.int c, .int d])] = .ret (.d (.bool (decide (a * d ≤ c * b)))) := by
  rw [call_s (d := d_is_at_most) (h := rfl), run_eq _ _ rfl]
  simp -dsimp -implicitDefEqProofs [d_is_at_most, b_is_at_most, (atI2 _ _).1, (atI2 _ _).2, h1, h2, isVar]
theorem is_less_eq (a b c d : Int) (h1 : big1 a d) (h2 : big1 c b) : call P prim n (k + 1) f_is_less [.d (.tuple [.int a, .int b]), .d (.tuple [.int c, .int d])] = .ret (.d (.bool (decide (a * d < c * b)))) := by
  rw [call_s (d := d_is_less) (h := rfl), run_eq _ _ rfl]
  simp -dsimp -implicitDefEqProofs [d_is_less, b_is_less, (atI2 _ _).1, (atI2 _ _).2, h1, h2, isVar]
def isChance (x : D) : Bool := match x with
  | .tuple [.int a, .int b] => decide (0 < b) && decide (Int.gcd a b = 1) && decide (0 ≤ a) && decide (a ≤ b)
  | _ => false
theorem frac_cases (x : D) : isFrac x = false ∨ ∃ a b : Int, x = .tuple [.int a, .int b] ∧ 0 < b ∧ Int.gcd a b = 1 := by
  cases h : isFrac x with
  | false => exact .inl rfl
  | true => exact .inr (isFrac_iff h)
theorem isChance_of {x : D} (h : isFrac x = false) : isChance x = false := by
  unfold isChance
  split
  · rename_i a b
    simp only [isFrac] at h
    rw [h]
    rfl
  · rfl
theorem isFrac_mk {a b : Int} (h1 : 0 < b) (h2 : Int.gcd a b = 1) : isFrac (.tuple [.int a, .int b]) = true := by simp [isFrac, h1, h2]
theorem big1_one {i : Int} (h : i.natAbs.log2 < 1920) : big1 i 1 ∧ big1 1 i := ⟨big1_of h (by decide), big1_of (by decide) h⟩
theorem is_chance_eq (x : D) (hn : Big n) (hx : x.showable = true) : call P prim n (k + 3) f_is_chance [.d x] = .ret (.d (.bool (isChance x))) := by
  rw [call_s (d := d_is_chance) (h := rfl), run_eq _ _ rfl]
  rcases frac_cases x with h | ⟨a, b, rfl, h1, h2⟩
  · simp -dsimp -implicitDefEqProofs [d_is_chance, b_is_chance, rdVar_eq, is_fraction_eq x hn hx, h, isVar, isChance_of h]
  · obtain ⟨s1, s2⟩ := show_frac hx
    by_cases hp : 0 ≤ a
    · simp -dsimp -implicitDefEqProofs [d_is_chance, b_is_chance, rdVar_eq, is_fraction_eq _ hn hx, isFrac_mk h1 h2, isVar, isChance, (atI2 _ _).1, (atI2 _ _).2, hp, is_at_most_eq a b 1 1 (big1_one s1).1 (big1_one s2).2, h1, h2]
    · simp -dsimp -implicitDefEqProofs [d_is_chance, b_is_chance, rdVar_eq, is_fraction_eq _ hn hx, isFrac_mk h1 h2, isVar, isChance, (atI2 _ _).1, (atI2 _ _).2, hp, h1, h2]
def isFactory (x : D) : Bool := match x with
  | .tuple xs => decide (1 ≤ xs.length) && decide (xs.length ≤ 41) && xs.all isChance
  | _ => false
theorem showL_mem {xs : List D} (h : (PySem.PyData.tuple xs).showable = true) : ∀ x ∈ xs, x.showable = true := by
  have h' : PySem.PyData.showableAll xs = true := by simpa only [PySem.PyData.showable] using h
  clear h
  induction xs with
  | nil => simp
  | cons y ys ih =>
    simp only [PySem.PyData.showableAll, Bool.and_eq_true] at h'
    intro x hx
    rcases List.mem_cons.mp hx with e | e
    · rw [e]; exact h'.1
    · exact ih h'.2 x e
theorem is_factory_value_eq (x : D) (hn : Big n) (hx : x.showable = true) : call P prim n (k + 4) f_is_factory_value [.d x] = .ret (.d (.bool (isFactory x))) := by
  rw [call_s (d := d_is_factory_value) (h := rfl), run_eq _ _ rfl]
  cases x with
  | tuple xs =>
    by_cases h1 : 1 ≤ xs.length
    · have h1' : (1 : Int) ≤ xs.length := by omega
      by_cases h2 : xs.length ≤ 41
      · have h2' : (xs.length : Int) ≤ 41 := by omega
        have h3 : xs.length ≤ 16777216 := by omega
        simp -dsimp -implicitDefEqProofs [d_is_factory_value, b_is_factory_value, isinD, isT, h1, h2, h1', h2', h3, isVar, rdVar_eq]
        rw [compE_eq (f := fun x => some (.bool (isChance x))) (h := fun x hm => by simp -dsimp -implicitDefEqProofs [compStep, rdVar_eq, is_chance_eq x hn (showL_mem hx x hm)])]
        simp -dsimp -implicitDefEqProofs [boolsD_map, isFactory, h1, h2]
      · have h2' : ¬ (xs.length : Int) ≤ 41 := by omega
        simp -dsimp -implicitDefEqProofs [d_is_factory_value, b_is_factory_value, isinD, isT, h1, h2, h1', h2', isVar, rdVar_eq, isFactory]
    · have h1' : ¬ (1 : Int) ≤ xs.length := by omega
      simp -dsimp -implicitDefEqProofs [d_is_factory_value, b_is_factory_value, isinD, isT, h1, h1', isVar, rdVar_eq, isFactory]
  | _ => simp -dsimp -implicitDefEqProofs [d_is_factory_value, b_is_factory_value, isinD, isT, isVar, isFactory]

def isPoly (x : D) : Bool := match x with
  | .tuple xs => decide (xs.length ≤ 9) && xs.all isFrac && (match xs.getLast? with
    | some (.tuple [.int a, _]) => decide (a ≠ 0)
    | _ => true)
  | _ => false
theorem all_frac_lay : ∀ {xs : List D}, xs.all isFrac = true → PySem.PyData.canLayAll0 xs = true ∧ PySem.PyData.depthAll xs ≤ 3
  | [], _ => ⟨rfl, by simp [PySem.PyData.depthAll]⟩
  | x :: xs, h => by
    simp only [List.all_cons, Bool.and_eq_true] at h
    obtain ⟨h1, h2⟩ := all_frac_lay h.2
    obtain ⟨a, b, rfl, _, _⟩ := isFrac_iff h.1
    refine ⟨by simp [PySem.PyData.canLayAll0, PySem.PyData.canLay0, h1], ?_⟩
    simp only [PySem.PyData.depthAll, PySem.PyData.depth]
    omega
theorem lay_of {xs : List D} (h1 : PySem.PyData.canLayAll0 xs = true) (h2 : PySem.PyData.depthAll xs ≤ 60) : lay (.tuple xs) = true := by
  show (PySem.PyData.canLay0 (.tuple xs) && decide ((PySem.PyData.tuple xs).depth ≤ 64)) = true
  have e : (PySem.PyData.tuple xs).depth ≤ 64 := by simp only [PySem.PyData.depth]; omega
  simp only [PySem.PyData.canLay0, h1, e, decide_true, Bool.and_self]
theorem lay_frac (a b : Int) : lay (.tuple [.int a, .int b]) = true := lay_of (by simp [PySem.PyData.canLayAll0, PySem.PyData.canLay0]) (by simp [PySem.PyData.depthAll, PySem.PyData.depth])
theorem eqv_nil (xs : List D) : PySem.PyData.eqv (.tuple xs) (.tuple []) = xs.isEmpty := by
  cases xs <;> simp [PySem.PyData.eqv, PySem.PyData.eqvAll]
theorem eqv_frac (a b c d : Int) : PySem.PyData.eqv (.tuple [.int a, .int b]) (.tuple [.int c, .int d]) = (decide (a = c) && decide (b = d)) := by
  simp only [PySem.PyData.eqv, PySem.PyData.eqvAll, Bool.and_true]
  rw [show (a == c) = decide (a = c) from by rw [Bool.eq_iff_iff]; simp, show (b == d) = decide (b = d) from by rw [Bool.eq_iff_iff]; simp]
theorem atI_last (xs : List D) (y : D) : L2.atI (xs ++ [y]) (-1) = some y := by
  unfold L2.atI L2.ixN
  have e : ((-1 : Int) + ((xs ++ [y]).length : Int)).toNat = xs.length := by
    rw [List.length_append, List.length_singleton]
    omega
  rw [if_neg (by omega), if_pos (by rw [List.length_append, List.length_singleton]; omega), e]
  simp
theorem is_polynomial_value_eq (x : D) (hn : Big n) (hx : x.showable = true) : call P prim n (k + 3) f_is_polynomial_value [.d x] = .ret (.d (.bool (isPoly x))) := by
  rw [call_s (d := d_is_polynomial_value) (h := rfl), run_eq _ _ rfl]
  cases x with
  | tuple xs =>
    by_cases h2 : xs.length ≤ 9
    · have h2' : ¬ 9 < (xs.length : Int) := by omega
      have h3 : xs.length ≤ 16777216 := by omega
      simp -dsimp -implicitDefEqProofs [d_is_polynomial_value, b_is_polynomial_value, isinD, isT, h2, h2', h3, isVar, rdVar_eq]
      rw [compE_eq (f := fun x => some (.bool (isFrac x))) (h := fun x hm => by simp -dsimp -implicitDefEqProofs [compStep, rdVar_eq, is_fraction_eq x hn (showL_mem hx x hm)])]
      cases hf : xs.all isFrac with
      | false => simp -dsimp -implicitDefEqProofs [boolsD_map, isPoly, h2, hf]
      | true =>
        obtain ⟨l1, l2⟩ := all_frac_lay hf
        have l3 := lay_of l1 (by omega)
        have e1 : cmpD .eq (.tuple xs) (.tuple []) = some xs.isEmpty := by rw [cmp_eqG (by rw [l3, lay_nilT]; rfl), eqv_nil]
        rcases List.eq_nil_or_concat xs with e | ⟨ys, y, e⟩
        · subst e
          simp -dsimp -implicitDefEqProofs [boolsD_map, isPoly, h2, hf, e1]
        · rw [List.concat_eq_append] at e
          have f1 : L2.atI xs (-1) = some y := by rw [e]; exact atI_last ys y
          have f2 : xs.getLast? = some y := by rw [e]; simp
          have f3 : xs.isEmpty = false := by rw [e]; simp
          have hy : isFrac y = true := List.all_eq_true.mp hf y (by rw [e]; simp)
          obtain ⟨a, b, rfl, hb, hg⟩ := isFrac_iff hy
          have e2 : cmpD .ne (.tuple [.int a, .int b]) (.tuple [.int 0, .int 1]) = some (decide (a ≠ 0)) := by
            rw [cmp_neG (by rw [lay_frac, lay_frac]; rfl), eqv_frac]
            by_cases ha : a = 0
            · subst ha
              have : b = 1 := by
                simp at hg
                omega
              simp [this]
            · simp [ha]
          simp -dsimp -implicitDefEqProofs [boolsD_map, hf, e1, f1, e2, f3]
          simp -dsimp -implicitDefEqProofs [isPoly, h2, hf, f2]
    · have h2' : 9 < (xs.length : Int) := by omega
      simp -dsimp -implicitDefEqProofs [d_is_polynomial_value, b_is_polynomial_value, isinD, isT, h2, h2', isVar, rdVar_eq, isPoly]
  | _ => simp -dsimp -implicitDefEqProofs [d_is_polynomial_value, b_is_polynomial_value, isinD, isT, isVar, isPoly]
end K92
end

section
set_option linter.all false
set_option maxRecDepth 100000
open TP
namespace K92
variable {prim : Nat → List Vl → M Vl} {n k : Nat}
/-- a fraction as the program has it -/
def fr (q : Rat) : D := .tuple [.int q.num, .int q.den]
def LF : Nat := 9000
/-- fuel enough -/
def Fuel (n : Nat) : Prop := 2 ^ LF + 10 ≤ n
def LD : Nat := 4000
def LN : Nat := 60000000
theorem Fuel.big (h : Fuel n) : Big n := by
  unfold Fuel at h
  unfold Big
  have : 2 ^ 1920 ≤ 2 ^ LF := Nat.pow_le_pow_right (by decide) (by decide)
  exact Nat.le_trans this (Nat.le_trans (Nat.le_add_right _ _) h)
theorem Fuel.lt (h : Fuel n) {d : Nat} (hd : d < 2 ^ LF) : d + 9 < n := by
  unfold Fuel at h
  generalize 2 ^ LF = z at *
  omega
theorem bits_lt {i : Int} {l : Nat} (h : i.natAbs < 2 ^ l) : PySem.Builtin.Int.intBits i ≤ l + 1 := by
  unfold PySem.Builtin.Int.intBits
  split
  · omega
  · rename_i h0
    have h1 : i.natAbs ≠ 0 := by simpa using h0
    have := (Nat.log2_lt h1).mpr h
    omega
theorem b1_lt {i j : Int} {l m : Nat} (hi : i.natAbs < 2 ^ l) (hj : j.natAbs < 2 ^ m) (h : l + m ≤ 134000000) : big1 i j := PySem.IntMulOk.of_le (bits_lt hi) (bits_lt hj) (by omega)
theorem log_lt {a l : Nat} (h : a < 2 ^ l) (hl : 0 < l) : a.log2 < l := by
  by_cases h0 : a = 0
  · subst h0
    simpa using hl
  · exact (Nat.log2_lt h0).mpr h
theorem mk_fr (t : Int) (d : Nat) (hd : 0 < d) : fr (mkRat t d) = .tuple [.int (t / (Int.gcd t d : Int)), .int ((d : Int) / (Int.gcd t d : Int))] := by
  have e1 : d.gcd t.natAbs = Int.gcd t d := by
    unfold Int.gcd
    rw [Nat.gcd_comm]
    rfl
  unfold fr
  rw [Rat.num_mkRat, Rat.den_mkRat, if_neg (by omega), if_neg (by omega), e1]
  rfl
theorem gcd_ok (t : Int) (d : Nat) (hd : 0 < d) (hs : d < 2 ^ LF) : big2 (Int.gcd t d : Int) := by
  have hg : 0 < Int.gcd t d := Int.gcd_pos_of_ne_zero_right t (by omega)
  have hg2 : Int.gcd t d ≤ d := Nat.le_of_dvd hd (by simpa using Int.gcd_dvd_natAbs_right t d)
  refine ⟨by omega, ?_⟩
  rw [Int.natAbs_natCast]
  exact log_lt (Nat.lt_of_le_of_lt hg2 hs) (by decide)
theorem lowest_eq (hn : Fuel n) (t : Int) (d : Nat) (hd : 0 < d) (hs : d < 2 ^ LF) : call P prim n (k + 2) f_lowest [.d (.int t), .d (.int d)] = .ret (.d (fr (mkRat t d))) := by
  have h1 : ((d : Int).toNat) < n := by have := hn.lt hs; omega
  have e := divisor_of_eq (prim := prim) (n := n) (k := k) t d (by omega) h1
  have g := gcd_ok t d hd hs
  rw [call_s (d := d_lowest) (h := rfl), run_eq _ _ rfl, mk_fr t d hd]
  simp -dsimp -implicitDefEqProofs [d_lowest, b_lowest, rdVar_eq, e, g]
theorem plus_raw (hn : Fuel n) (a c : Int) (b d : Nat) (hb : 0 < b) (hd : 0 < d) (h1 : big1 a d) (h2 : big1 c b) (h3 : big1 b d) (hs : b * d < 2 ^ LF) :
    call P prim n (k + 3) f_plus [.d (.tuple [.int a, .int b]), .d (.tuple [.int c, .int d])] = .ret (.d (fr (mkRat (a * d + c * b) (b * d)))) := by
  have e := lowest_eq (prim := prim) (k := k) hn (a * d + c * b) (b * d) (Nat.mul_pos hb hd) hs
  rw [Int.natCast_mul] at e
  rw [call_s (d := d_plus) (h := rfl), run_eq _ _ rfl]
  simp -dsimp -implicitDefEqProofs [d_plus, b_plus, rdVar_eq, (atI2 _ _).1, (atI2 _ _).2, h1, h2, h3, e]
theorem times_raw (hn : Fuel n) (a c : Int) (b d : Nat) (hb : 0 < b) (hd : 0 < d) (h1 : big1 a c) (h3 : big1 b d) (hs : b * d < 2 ^ LF) :
    call P prim n (k + 3) f_times [.d (.tuple [.int a, .int b]), .d (.tuple [.int c, .int d])] = .ret (.d (fr (mkRat (a * c) (b * d)))) := by
  have e := lowest_eq (prim := prim) (k := k) hn (a * c) (b * d) (Nat.mul_pos hb hd) hs
  rw [Int.natCast_mul] at e
  rw [call_s (d := d_times) (h := rfl), run_eq _ _ rfl]
  simp -dsimp -implicitDefEqProofs [d_times, b_times, rdVar_eq, (atI2 _ _).1, (atI2 _ _).2, h1, h3, e]
/-! ### the law's own -/
theorem lloop {G : G1} (s0 s1 : Option Vl) : ∀ (b a m : Nat), b < m → whileE G n (.cmp .gt (.bor 3) (.int 0)) (.cons (.par [2, 3] (.cons (.var 3) (.cons (.bin .mod (.bi .int (.cons (.bor 2) .nil)) (.bor 3)) .nil))) .nil) m [s0, s1, some (.d (.int a)), some (.d (.int b))] = .ret (.nx [s0, s1, some (.d (.int (Nat.gcd a b))), some (.d (.int 0))]) := by
  intro b
  induction b using Nat.strongRecOn with
  | ind b ih =>
    intro a m hm
    obtain ⟨m, rfl⟩ : ∃ m', m = m' + 1 := ⟨m - 1, by omega⟩
    rw [whileE_s]
    by_cases hb : b = 0
    · subst hb
      simp -dsimp -implicitDefEqProofs
    · have h2 : a % b < b := Nat.mod_lt _ (by omega)
      have h3 := ih (a % b) h2 b m (by omega)
      have h4 : 0 < b := by omega
      have h5 : ((a % b : Nat) : Int) = (a : Int) % (b : Int) := by omega
      rw [h5] at h3
      simp -dsimp -implicitDefEqProofs [rdVar_eq, hb, h4]
      rw [gcd_step a b hb]
      exact h3
/-- .. from any b, by a -/
theorem lloop2 {G : G1} (s0 s1 : Option Vl) (b a m : Nat) (hm : a + 2 < m) : whileE G n (.cmp .gt (.bor 3) (.int 0)) (.cons (.par [2, 3] (.cons (.var 3) (.cons (.bin .mod (.bi .int (.cons (.bor 2) .nil)) (.bor 3)) .nil))) .nil) m [s0, s1, some (.d (.int a)), some (.d (.int b))] = .ret (.nx [s0, s1, some (.d (.int (Nat.gcd a b))), some (.d (.int 0))]) := by
  by_cases hb : b ≤ a
  · exact lloop s0 s1 b a m (by omega)
  · obtain ⟨m, rfl⟩ : ∃ m', m = m' + 1 := ⟨m - 1, by omega⟩
    have h2 : a % b = a := Nat.mod_eq_of_lt (by omega)
    have h3 := lloop (n := n) (G := G) s0 s1 a b m (by omega)
    have h4 : 0 < b := by omega
    have hb0 : ¬ b = 0 := by omega
    have h5 : (a : Int) % (b : Int) = (a : Int) := by omega
    rw [whileE_s]
    simp -dsimp -implicitDefEqProofs [rdVar_eq, hb0, h4, h5]
    rw [Nat.gcd_comm a b]
    exact h3
theorem llow_eq (hn : Fuel n) (t : Int) (d : Nat) (hd : 0 < d) (hs : d < 2 ^ LF) : call P prim n (k + 1) f__law_low [.d (.int t), .d (.int d)] = .ret (.d (fr (mkRat t d))) := by
  have g := gcd_ok t d hd hs
  have h := lloop2 (n := n) (G := call P prim n k) (some (.d (.int t))) (some (.d (.int d))) t.natAbs d n (by have := hn.lt hs; omega)
  have e : (if t < 0 then -t else t) = (t.natAbs : Int) := by omega
  have e3 : Nat.gcd d t.natAbs = Int.gcd t d := by
    unfold Int.gcd
    rw [Nat.gcd_comm]
    rfl
  rw [e3] at h
  rw [call_s (d := d__law_low) (h := rfl), run_eq _ _ rfl, mk_fr t d hd]
  simp -dsimp -implicitDefEqProofs [d__law_low, b__law_low, rdVar_eq, e]
  rw [h]
  simp -dsimp -implicitDefEqProofs [rdVar_eq, g]
theorem lplus_raw (hn : Fuel n) (a c : Int) (b d : Nat) (hb : 0 < b) (hd : 0 < d) (h1 : big1 a d) (h2 : big1 c b) (h3 : big1 b d) (hs : b * d < 2 ^ LF) :
    call P prim n (k + 2) f__law_plus [.d (.tuple [.int a, .int b]), .d (.tuple [.int c, .int d])] = .ret (.d (fr (mkRat (a * d + c * b) (b * d)))) := by
  have e := llow_eq (prim := prim) (k := k) hn (a * d + c * b) (b * d) (Nat.mul_pos hb hd) hs
  rw [Int.natCast_mul] at e
  rw [call_s (d := d__law_plus) (h := rfl), run_eq _ _ rfl]
  simp -dsimp -implicitDefEqProofs [d__law_plus, b__law_plus, rdVar_eq, (atI2 _ _).1, (atI2 _ _).2, h1, h2, h3, e]
theorem lminus_raw (hn : Fuel n) (a c : Int) (b d : Nat) (hb : 0 < b) (hd : 0 < d) (h1 : big1 a d) (h2 : big1 c b) (h3 : big1 b d) (hs : b * d < 2 ^ LF) :
    call P prim n (k + 2) f__law_minus [.d (.tuple [.int a, .int b]), .d (.tuple [.int c, .int d])] = .ret (.d (fr (mkRat (a * d - c * b) (b * d)))) := by
  have e := llow_eq (prim := prim) (k := k) hn (a * d - c * b) (b * d) (Nat.mul_pos hb hd) hs
  rw [Int.natCast_mul] at e
  rw [call_s (d := d__law_minus) (h := rfl), run_eq _ _ rfl]
  simp -dsimp -implicitDefEqProofs [d__law_minus, b__law_minus, rdVar_eq, (atI2 _ _).1, (atI2 _ _).2, h1, h2, h3, e]
theorem ltimes_raw (hn : Fuel n) (a c : Int) (b d : Nat) (hb : 0 < b) (hd : 0 < d) (h1 : big1 a c) (h3 : big1 b d) (hs : b * d < 2 ^ LF) :
    call P prim n (k + 2) f__law_times [.d (.tuple [.int a, .int b]), .d (.tuple [.int c, .int d])] = .ret (.d (fr (mkRat (a * c) (b * d)))) := by
  have e := llow_eq (prim := prim) (k := k) hn (a * c) (b * d) (Nat.mul_pos hb hd) hs
  rw [Int.natCast_mul] at e
  rw [call_s (d := d__law_times) (h := rfl), run_eq _ _ rfl]
  simp -dsimp -implicitDefEqProofs [d__law_times, b__law_times, rdVar_eq, (atI2 _ _).1, (atI2 _ _).2, h1, h3, e]
end K92
end

section
set_option linter.all false
set_option maxRecDepth 100000
open TP RR
namespace K92
variable {prim : Nat → List Vl → M Vl} {n k : Nat}
/-- how long a fraction is -/
structure Sz (l : Nat) (q : Rat) : Prop where
  d : q.den < 2 ^ LD
  n : q.num.natAbs < 2 ^ l
/-- a fraction over L -/
def Dn (L : Nat) (q : Rat) : Prop := ∃ z : Int, q = (z : Rat) / (L : Rat)
section
variable {l m L M' : Nat} {p q : Rat}
theorem Sz.mono (h : Sz l p) (hl : l ≤ m) : Sz m p := ⟨h.d, Nat.lt_of_lt_of_le h.n (Nat.pow_le_pow_right (by decide) hl)⟩
theorem Dn.add (h : Dn L p) (g : Dn L q) : Dn L (p + q) := by
  obtain ⟨z, rfl⟩ := h
  obtain ⟨w, rfl⟩ := g
  refine ⟨z + w, ?_⟩
  rw [Rat.intCast_add]
  grind
theorem Dn.sub (h : Dn L p) (g : Dn L q) : Dn L (p - q) := by
  obtain ⟨z, rfl⟩ := h
  obtain ⟨w, rfl⟩ := g
  refine ⟨z - w, ?_⟩
  rw [Rat.intCast_sub]
  grind
theorem Dn.mul (h : Dn L p) (g : Dn M' q) : Dn (L * M') (p * q) := by
  obtain ⟨z, rfl⟩ := h
  obtain ⟨w, rfl⟩ := g
  refine ⟨z * w, ?_⟩
  rw [Rat.intCast_mul, Rat.natCast_mul]
  grind
theorem Dn.le (hL : 0 < L) (h : Dn L p) : p.den ≤ L := by
  obtain ⟨z, rfl⟩ := h
  have e : ((z : Rat) / (L : Rat)) = mkRat z L := (Rat.mkRat_eq_div z L).symm
  rw [e, Rat.den_mkRat, if_neg (by omega)]
  exact Nat.div_le_self _ _
theorem Dn.self (q : Rat) : Dn q.den q := by
  refine ⟨q.num, ?_⟩
  rw [← Rat.mkRat_eq_div, Rat.mkRat_self]
theorem Dn.of_dvd (h : Dn L p) (hd : L ∣ M') (hM : 0 < M') : Dn M' p := by
  obtain ⟨z, rfl⟩ := h
  obtain ⟨c, rfl⟩ := hd
  refine ⟨z * c, ?_⟩
  have hc : (c : Rat) ≠ 0 := by
    intro e
    have : c = 0 := by exact_mod_cast e
    subst this
    simp at hM
  rw [Rat.intCast_mul, Rat.natCast_mul]
  have e : ((c : Int) : Rat) = (c : Rat) := rfl
  rw [e]
  by_cases hL : (L : Rat) = 0
  · rw [hL]
    grind
  · grind
theorem Dn.int (z : Int) : Dn 1 (z : Rat) := ⟨z, by
  have : ((1 : Nat) : Rat) = 1 := rfl
  rw [this]
  grind⟩
theorem num_le {t : Int} {d : Nat} (hd : 0 < d) : (mkRat t d).num.natAbs ≤ t.natAbs := by
  rw [Rat.num_mkRat, if_neg (by omega)]
  exact Int.natAbs_ediv_le_natAbs _ _
theorem Sz.plus (h : Sz l p) (g : Sz m q) (hl : l ≤ k) (hm : m ≤ k) (hd : (p + q).den < 2 ^ LD) : Sz (k + LD + 1) (p + q) := by
  refine ⟨hd, ?_⟩
  rw [Rat.add_def']
  refine Nat.lt_of_le_of_lt (num_le (Nat.mul_pos p.den_pos q.den_pos)) ?_
  have a1 : (p.num * (q.den : Int)).natAbs < 2 ^ (k + LD) := by
    rw [Int.natAbs_mul, Int.natAbs_natCast, Nat.pow_add]
    exact Nat.mul_lt_mul'' (h.mono hl).n g.d
  have a2 : (q.num * (p.den : Int)).natAbs < 2 ^ (k + LD) := by
    rw [Int.natAbs_mul, Int.natAbs_natCast, Nat.pow_add]
    exact Nat.mul_lt_mul'' (g.mono hm).n h.d
  have a3 := Int.natAbs_add_le (p.num * (q.den : Int)) (q.num * (p.den : Int))
  rw [Nat.pow_succ]
  omega
theorem Sz.minus (h : Sz l p) (g : Sz m q) (hl : l ≤ k) (hm : m ≤ k) (hd : (p - q).den < 2 ^ LD) : Sz (k + LD + 1) (p - q) := by
  refine ⟨hd, ?_⟩
  rw [Rat.sub_def, Rat.normalize_eq_mkRat]
  refine Nat.lt_of_le_of_lt (num_le (Nat.mul_pos p.den_pos q.den_pos)) ?_
  have a1 : (p.num * (q.den : Int)).natAbs < 2 ^ (k + LD) := by
    rw [Int.natAbs_mul, Int.natAbs_natCast, Nat.pow_add]
    exact Nat.mul_lt_mul'' (h.mono hl).n g.d
  have a2 : (q.num * (p.den : Int)).natAbs < 2 ^ (k + LD) := by
    rw [Int.natAbs_mul, Int.natAbs_natCast, Nat.pow_add]
    exact Nat.mul_lt_mul'' (g.mono hm).n h.d
  have a3 := Int.natAbs_sub_le (p.num * (q.den : Int)) (q.num * (p.den : Int))
  rw [Nat.pow_succ]
  omega
theorem Sz.times (h : Sz l p) (g : Sz m q) (hd : (p * q).den < 2 ^ LD) : Sz (l + m) (p * q) := by
  refine ⟨hd, ?_⟩
  rw [Rat.mul_def']
  refine Nat.lt_of_le_of_lt (num_le (Nat.mul_pos p.den_pos q.den_pos)) ?_
  rw [Int.natAbs_mul, Nat.pow_add]
  exact Nat.mul_lt_mul'' h.n g.n
theorem dens (h : Sz l p) (g : Sz m q) : p.den * q.den < 2 ^ LF := by
  have : p.den * q.den < 2 ^ (LD + LD) := by
    rw [Nat.pow_add]
    exact Nat.mul_lt_mul'' h.d g.d
  exact Nat.lt_of_lt_of_le this (Nat.pow_le_pow_right (by decide) (by decide))
theorem b1_nd (h : Sz l p) (g : Sz m q) (hl : l ≤ LN) : big1 p.num q.den := b1_lt h.n (by rw [Int.natAbs_natCast]; exact g.d) (by
  have : LN + LD ≤ 134000000 := by decide
  omega)
theorem b1_nn (h : Sz l p) (g : Sz m q) (hl : l ≤ LN) (hm : m ≤ LN) : big1 p.num q.num := b1_lt h.n g.n (by
  have : LN + LN ≤ 134000000 := by decide
  omega)
theorem b1_dd (h : Sz l p) (g : Sz m q) : big1 (p.den : Int) q.den := b1_lt (l := LD) (m := LD) (by rw [Int.natAbs_natCast]; exact h.d) (by rw [Int.natAbs_natCast]; exact g.d) (by decide)
theorem plus_eq (hn : Fuel n) (h : Sz l p) (g : Sz m q) (hl : l ≤ LN) (hm : m ≤ LN) : call P prim n (k + 3) f_plus [.d (fr p), .d (fr q)] = .ret (.d (fr (p + q))) := by
  have e := plus_raw (prim := prim) (k := k) hn p.num q.num p.den q.den p.den_pos q.den_pos (b1_nd h g hl) (b1_nd g h hm) (b1_dd h g) (dens h g)
  rw [Rat.add_def']
  exact e
theorem times_eq (hn : Fuel n) (h : Sz l p) (g : Sz m q) (hl : l ≤ LN) (hm : m ≤ LN) : call P prim n (k + 3) f_times [.d (fr p), .d (fr q)] = .ret (.d (fr (p * q))) := by
  have e := times_raw (prim := prim) (k := k) hn p.num q.num p.den q.den p.den_pos q.den_pos (b1_nn h g hl hm) (b1_dd h g) (dens h g)
  rw [Rat.mul_def']
  exact e
theorem lplus_eq (hn : Fuel n) (h : Sz l p) (g : Sz m q) (hl : l ≤ LN) (hm : m ≤ LN) : call P prim n (k + 2) f__law_plus [.d (fr p), .d (fr q)] = .ret (.d (fr (p + q))) := by
  have e := lplus_raw (prim := prim) (k := k) hn p.num q.num p.den q.den p.den_pos q.den_pos (b1_nd h g hl) (b1_nd g h hm) (b1_dd h g) (dens h g)
  rw [Rat.add_def']
  exact e
theorem lminus_eq (hn : Fuel n) (h : Sz l p) (g : Sz m q) (hl : l ≤ LN) (hm : m ≤ LN) : call P prim n (k + 2) f__law_minus [.d (fr p), .d (fr q)] = .ret (.d (fr (p - q))) := by
  have e := lminus_raw (prim := prim) (k := k) hn p.num q.num p.den q.den p.den_pos q.den_pos (b1_nd h g hl) (b1_nd g h hm) (b1_dd h g) (dens h g)
  rw [Rat.sub_def, Rat.normalize_eq_mkRat]
  exact e
theorem ltimes_eq (hn : Fuel n) (h : Sz l p) (g : Sz m q) (hl : l ≤ LN) (hm : m ≤ LN) : call P prim n (k + 2) f__law_times [.d (fr p), .d (fr q)] = .ret (.d (fr (p * q))) := by
  have e := ltimes_raw (prim := prim) (k := k) hn p.num q.num p.den q.den p.den_pos q.den_pos (b1_nn h g hl hm) (b1_dd h g) (dens h g)
  rw [Rat.mul_def']
  exact e
theorem fr_int (z : Int) : fr (z : Rat) = .tuple [.int z, .int 1] := rfl
theorem sz_int (z : Int) {l : Nat} (h : z.natAbs < 2 ^ l) : Sz l (z : Rat) := ⟨by
  show 1 < 2 ^ LD
  exact Nat.one_lt_two_pow (by decide), h⟩
end
end K92
end

section
set_option linter.all false
set_option maxRecDepth 100000
open TP RR
namespace K92
variable {prim : Nat → List Vl → M Vl} {n k : Nat}
def frs (as : List Rat) : List D := as.map fr
/-- what a row of fractions is over, how long they are -/
def Row (L l : Nat) (as : List Rat) : Prop := ∀ a ∈ as, Dn L a ∧ Sz l a
def hor (x : Rat) (f : Rat) (rs : List Rat) : Rat := rs.foldl (fun f a => f * x + a) f
theorem dn_sz {L : Nat} {q : Rat} (hL : 0 < L) (h2 : L < 2 ^ LD) (h : Dn L q) : q.den < 2 ^ LD := Nat.lt_of_le_of_lt (h.le hL) h2
def bHor : Sts := .cons (.asg 2 (.call f_plus (.cons (.call f_times (.cons (.var 2) (.cons (.var 1) .nil))) (.cons (.var 3) .nil)))) .nil
def bHorL : Sts := .cons (.asg 2 (.call f__law_plus (.cons (.call f__law_times (.cons (.var 2) (.cons (.var 1) .nil))) (.cons (.var 3) .nil)))) .nil
/-- the same work, by the program's and the law's fractions -/
theorem hor_loop (hn : Fuel n) {L l c : Nat} (hL : 0 < L) (hc : 0 < c) (x : Rat) (hx : Dn c x) (hxs : Sz 50 x) (s0 : Option Vl) (rs : List Rat) : ∀ (f : Rat) (i : Nat) (s3 : Option Vl),
    Row L l rs → Dn (L * c ^ i) f → Sz (l + i * (LD + 60)) f → L * c ^ (i + rs.length) < 2 ^ LD → l + (i + rs.length + 1) * (LD + 60) ≤ LN →
    (∃ s3', forE (call P prim n (k + 3)) n (.nm 3) bHor (frs rs) [s0, some (.d (fr x)), some (.d (fr f)), s3] = .ret (.nx [s0, some (.d (fr x)), some (.d (fr (hor x f rs))), s3'])) ∧
    ∃ s3', forE (call P prim n (k + 3)) n (.nm 3) bHorL (frs rs) [s0, some (.d (fr x)), some (.d (fr f)), s3] = .ret (.nx [s0, some (.d (fr x)), some (.d (fr (hor x f rs))), s3']) := by
  induction rs with
  | nil => exact fun f i s3 _ _ _ _ _ => ⟨⟨s3, by simp [frs, hor]⟩, ⟨s3, by simp [frs, hor]⟩⟩
  | cons a rs ih =>
    intro f i s3 hr hf hs hb hl
    have hci : 0 < c ^ (i + 1) := Nat.pow_pos hc
    have hLi : 0 < L * c ^ (i + 1) := Nat.mul_pos hL hci
    have hle : L * c ^ (i + 1) ≤ L * c ^ (i + (a :: rs).length) := Nat.mul_le_mul_left L (Nat.pow_le_pow_right hc (by rw [List.length_cons]; omega))
    have hlt : L * c ^ (i + 1) < 2 ^ LD := Nat.lt_of_le_of_lt hle hb
    obtain ⟨ha, hsa⟩ := hr a (by simp)
    have hm : Dn (L * c ^ (i + 1)) (f * x) := by
      have := hf.mul hx
      rwa [Nat.mul_assoc, ← Nat.pow_succ] at this
    have ha' : Dn (L * c ^ (i + 1)) a := ha.of_dvd (Nat.dvd_mul_right _ _) hLi
    have hp := hm.add ha'
    have hlen : (i + 1) * (LD + 60) ≤ (i + (a :: rs).length + 1) * (LD + 60) := Nat.mul_le_mul_right _ (by rw [List.length_cons]; omega)
    have e0 : (i + 1) * (LD + 60) = i * (LD + 60) + (LD + 60) := Nat.succ_mul _ _
    have hms : Sz (l + i * (LD + 60) + 50) (f * x) := hs.times hxs (dn_sz hLi hlt hm)
    have hps : Sz (l + (i + 1) * (LD + 60)) (f * x + a) := (hms.plus (k := l + i * (LD + 60) + 50) hsa (Nat.le_refl _) (by omega) (dn_sz hLi hlt hp)).mono (by omega)
    obtain ⟨⟨t3, e1⟩, t4, e2⟩ := ih (f * x + a) (i + 1) (some (.d (fr a))) (fun b hb => hr b (List.mem_cons_of_mem _ hb)) hp hps (by
      rw [List.length_cons] at hb
      rwa [show i + 1 + rs.length = i + (rs.length + 1) by omega]) (by
      rw [List.length_cons] at hl
      rwa [show i + 1 + rs.length = i + (rs.length + 1) by omega])
    have p1 := times_eq (prim := prim) (k := k) hn hs hxs (by omega) (by decide)
    have p2 := plus_eq (prim := prim) (k := k) hn hms hsa (by omega) (by omega)
    have q1 := ltimes_eq (prim := prim) (k := k + 1) hn hs hxs (by omega) (by decide)
    have q2 := lplus_eq (prim := prim) (k := k + 1) hn hms hsa (by omega) (by omega)
    have ef : frs (a :: rs) = fr a :: frs rs := rfl
    have eh : hor x f (a :: rs) = hor x (f * x + a) rs := rfl
    rw [ef, eh]
    refine ⟨⟨t3, ?_⟩, ⟨t4, ?_⟩⟩
    · rw [forE_c]
      simp -dsimp -implicitDefEqProofs [bHor, rdVar_eq, p1, p2]
      exact e1
    · rw [forE_c]
      simp -dsimp -implicitDefEqProofs [bHorL, rdVar_eq, q1, q2]
      exact e2
def val (as : List Rat) (x : Rat) : Rat := hor x 0 as.reverse
theorem zero_dn (L : Nat) : Dn L 0 := ⟨0, by
  have : ((0 : Int) : Rat) = 0 := rfl
  rw [this]
  grind⟩
theorem zero_sz (l : Nat) : Sz l 0 := ⟨by
  show 1 < 2 ^ LD
  exact Nat.one_lt_two_pow (by decide), by
  show 0 < 2 ^ l
  exact Nat.two_pow_pos l⟩
theorem fr_zero : fr 0 = .tuple [.int 0, .int 1] := rfl
theorem fr_one : fr 1 = .tuple [.int 1, .int 1] := rfl
theorem value_eq (hn : Fuel n) {L l c : Nat} (hL : 0 < L) (hc : 0 < c) (as : List Rat) (ha : Row L l as) (x : Rat) (hx : Dn c x) (hxs : Sz 50 x) (hb : L * c ^ as.length < 2 ^ LD) (hl : l + (as.length + 1) * (LD + 60) ≤ LN) :
    call P prim n (k + 4) f_raw_value [.d (.tuple (frs as)), .d (fr x)] = .ret (.d (fr (val as x))) ∧ call P prim n (k + 4) f__law_value [.d (.tuple (frs as)), .d (fr x)] = .ret (.d (fr (val as x))) := by
  have er : (frs as).reverse = frs as.reverse := by simp [frs]
  obtain ⟨⟨s, e1⟩, t, e2⟩ := hor_loop (prim := prim) (k := k) hn hL hc x hx hxs (some (.d (.tuple (frs as)))) as.reverse 0 0 none (fun a h => ha a (by simpa using h)) (zero_dn _) (zero_sz _) (by simpa using hb) (by simpa using hl)
  unfold bHor at e1
  unfold bHorL at e2
  rw [fr_zero] at e1 e2
  constructor
  · rw [call_s (d := d_raw_value) (h := rfl), run_eq _ _ rfl]
    simp -dsimp -implicitDefEqProofs [d_raw_value, b_raw_value, rdVar_eq, er]
    rw [e1]
    simp -dsimp -implicitDefEqProofs [val]
  · rw [call_s (d := d__law_value) (h := rfl), run_eq _ _ rfl]
    simp -dsimp -implicitDefEqProofs [d__law_value, b__law_value, rdVar_eq, er]
    rw [e2]
    simp -dsimp -implicitDefEqProofs [val]
/-! ### sums -/
def sumL (f : Rat) (as : List Rat) : Rat := as.foldl (· + ·) f
def bTot : Sts := .cons (.asg 1 (.call f_plus (.cons (.var 1) (.cons (.var 2) .nil)))) .nil
theorem tot_loop (hn : Fuel n) {L l : Nat} (hL : 0 < L) (hL2 : L < 2 ^ LD) (s0 : Option Vl) : ∀ (rs : List Rat) (f : Rat) (i : Nat) (s2 : Option Vl), Row L l rs → Dn L f → Sz (l + i * (LD + 1)) f → l + (i + rs.length) * (LD + 1) ≤ LN →
    ∃ s2', forE (call P prim n (k + 3)) n (.nm 2) bTot (frs rs) [s0, some (.d (fr f)), s2] = .ret (.nx [s0, some (.d (fr (sumL f rs))), s2'])
  | [], f, i, s2, _, _, _, _ => ⟨s2, by simp [frs, sumL]⟩
  | a :: rs, f, i, s2, hr, hf, hs, hl => by
    obtain ⟨ha, hsa⟩ := hr a (by simp)
    have hp := hf.add ha
    have e0 : (i + 1) * (LD + 1) = i * (LD + 1) + (LD + 1) := Nat.succ_mul _ _
    have hps : Sz (l + (i + 1) * (LD + 1)) (f + a) := (hs.plus (k := l + i * (LD + 1)) hsa (Nat.le_refl _) (by omega) (dn_sz hL hL2 hp)).mono (by omega)
    have hlen : i * (LD + 1) ≤ (i + (a :: rs).length) * (LD + 1) := Nat.mul_le_mul_right _ (by omega)
    obtain ⟨t, e1⟩ := tot_loop hn hL hL2 s0 rs (f + a) (i + 1) (some (.d (fr a))) (fun b hb => hr b (List.mem_cons_of_mem _ hb)) hp hps (by
      rw [List.length_cons] at hl
      rwa [show i + 1 + rs.length = i + (rs.length + 1) by omega])
    have p2 := plus_eq (prim := prim) (k := k) hn hs hsa (by omega) (by omega)
    refine ⟨t, ?_⟩
    rw [show frs (a :: rs) = fr a :: frs rs from rfl, show sumL f (a :: rs) = sumL (f + a) rs from rfl, forE_c]
    simp -dsimp -implicitDefEqProofs [bTot, rdVar_eq, p2]
    exact e1
theorem total_eq (hn : Fuel n) {L l : Nat} (hL : 0 < L) (hL2 : L < 2 ^ LD) (rs : List Rat) (hr : Row L l rs) (hl : l + rs.length * (LD + 1) ≤ LN) : call P prim n (k + 4) f_total [.d (.list (frs rs))] = .ret (.d (fr (sumL 0 rs))) := by
  obtain ⟨s, e⟩ := tot_loop (prim := prim) (k := k) hn hL hL2 (some (.d (.list (frs rs)))) rs 0 0 none hr (zero_dn _) (zero_sz _) (by simpa using hl)
  unfold bTot at e
  rw [fr_zero] at e
  rw [call_s (d := d_total) (h := rfl), run_eq _ _ rfl]
  simp -dsimp -implicitDefEqProofs [d_total, b_total, rdVar_eq]
  rw [e]
  simp -dsimp -implicitDefEqProofs
end K92
end

section
set_option linter.all false
set_option maxRecDepth 100000
open TP RR
namespace K92
variable {prim : Nat → List Vl → M Vl} {n k : Nat}
def il (xs : List Int) : List D := xs.map PySem.PyData.int
theorem rng_of (a : Int) (h0 : 0 ≤ a) (h : a ≤ 1000) : rng1D (.int a) = some (rngD 0 a.toNat 1) := by
  have : small a := ⟨by omega, by omega⟩
  show (if small a then some (rngD 0 a.toNat 1) else none) = _
  rw [if_pos this]
theorem rng_len (a : Int) (m : Nat) (b : Int) : (rngD a m b).length = m := by simp [rngD]
/-- a range's things, one behind the other -/
theorem rng_succ (m : Nat) : rngD 0 (m + 1) 1 = rngD 0 m 1 ++ [.int (m : Int)] := by
  simp [rngD, List.range_succ]
def rowL (m : Nat) : List Int := (List.range (m + 1)).map fun k => (choose m k : Int)
theorem rowL_len (m : Nat) : (rowL m).length = m + 1 := by simp [rowL]
theorem rowL_get (m i : Nat) (h : i ≤ m) : (rowL m)[i]? = some (choose m i : Int) := by
  unfold rowL
  rw [List.getElem?_map, List.getElem?_range (by omega)]
  rfl
theorem rowL_succ (m : Nat) : rowL (m + 1) = 1 :: (List.zipWith (· + ·) (rowL m) (rowL m).tail ++ [1]) := by
  apply List.ext_getElem?
  intro i
  cases i with
  | zero => simp [rowL, choose]
  | succ i =>
    rw [List.getElem?_cons_succ]
    have hz : (List.zipWith (· + ·) (rowL m) (rowL m).tail).length = m := by
      rw [List.length_zipWith, List.length_tail, rowL_len]
      omega
    by_cases h : i < m
    · rw [List.getElem?_append_left (by omega), rowL_get (m + 1) (i + 1) (by omega), List.getElem?_zipWith, rowL_get m i (by omega), List.getElem?_tail, rowL_get m (i + 1) (by omega), choose]
      simp
    · by_cases h2 : i = m
      · subst h2
        rw [List.getElem?_append_right (by omega), hz, rowL_get (i + 1) (i + 1) (by omega), choose, choose_gt i (i + 1) (by omega)]
        have : choose i i = 1 := by
          clear h hz
          induction i with
          | zero => rfl
          | succ j ih => rw [choose, ih, choose_gt j (j + 1) (by omega)]
        simp [this]
      · rw [List.getElem?_eq_none (by rw [rowL_len]; omega), List.getElem?_eq_none (by rw [List.length_append, hz, List.length_singleton]; omega)]
theorem pairs_il : ∀ (xs ys : List Int), (pairsD (il xs) (il ys)).filterMap (fun e => match e with | .tuple [.int x, .int y] => some (PySem.PyData.int (x + y)) | _ => none) = il (List.zipWith (· + ·) xs ys)
  | [], ys => by simp [pairsD, il]
  | x :: xs, [] => by simp [pairsD, il]
  | x :: xs, y :: ys => by
    have ih := pairs_il xs ys
    show (PySem.PyData.tuple [.int x, .int y] :: pairsD (il xs) (il ys)).filterMap _ = .int (x + y) :: il (List.zipWith (· + ·) xs ys)
    rw [List.filterMap_cons]
    dsimp only
    rw [ih]
theorem pairs_mem : ∀ (xs ys : List Int) (e : D), e ∈ pairsD (il xs) (il ys) → ∃ x y : Int, e = .tuple [.int x, .int y]
  | [], ys, e, h => by simp [pairsD, il] at h
  | x :: xs, [], e, h => by simp [pairsD, il] at h
  | x :: xs, y :: ys, e, h => by
    have h' : e ∈ PySem.PyData.tuple [.int x, .int y] :: pairsD (il xs) (il ys) := h
    rcases List.mem_cons.mp h' with h1 | h1
    · exact ⟨x, y, h1⟩
    · exact pairs_mem xs ys e h1
theorem sIx_some (m : Nat) (d : Nat) (r : Int) (h : 0 ≤ r) : HT.sIx m d (some r) = min r.toNat m := by
  show (if r < 0 then (r + (m : Int)).toNat else min r.toNat m) = _
  rw [if_neg (by omega)]
theorem cut_to {α : Type} (xs : List α) (r : Int) (h : 0 ≤ r) : cut xs none (some r) = xs.take r.toNat := by
  unfold cut
  rw [sIx_some _ _ r h]
  show (xs.drop 0).take (min r.toNat xs.length - 0) = _
  rw [List.drop_zero, Nat.sub_zero]
  by_cases hr : r.toNat ≤ xs.length
  · rw [Nat.min_eq_left hr]
  · rw [Nat.min_eq_right (by omega), List.take_of_length_le (by omega), List.take_of_length_le (by omega)]
theorem cut_from {α : Type} (xs : List α) (r : Int) (h : 0 ≤ r) : cut xs (some r) none = xs.drop r.toNat := by
  unfold cut
  rw [sIx_some _ _ r h]
  show (xs.drop (min r.toNat xs.length)).take (xs.length - min r.toNat xs.length) = _
  rw [List.take_of_length_le (by rw [List.length_drop]; omega)]
  by_cases hr : r.toNat ≤ xs.length
  · rw [Nat.min_eq_left hr]
  · rw [Nat.min_eq_right (by omega), List.drop_of_length_le (by omega), List.drop_of_length_le (by omega)]
theorem cut1 {α : Type} (xs : List α) : cut xs (some 1) none = xs.tail := by
  rw [cut_from xs 1 (by decide)]
  simp
def bChoose : Sts := .cons (.asg 1 (.bin .add (.bin .add (.lst (.cons (.int 1) .nil)) (.comp (.bin .add (.bor 3) (.bor 4)) (.tp (.cons (.nm 3) (.cons (.nm 4) .nil))) (.zip (.var 1) (.slc (.bor 1) (.cons (.int 1) .nil) .nil)) .nil [3, 4])) (.lst (.cons (.int 1) .nil)))) .nil
theorem choose_loop {G : G1} (s0 : Option Vl) : ∀ (zs : List D) (m : Nat) (s2 : Option Vl), m + zs.length ≤ 1000 → ∃ s2', forE G n (.nm 2) bChoose zs [s0, some (.own (il (rowL m))), s2, none, none] = .ret (.nx [s0, some (.own (il (rowL (m + zs.length)))), s2', none, none])
  | [], m, s2, _ => ⟨s2, by simp⟩
  | z :: zs, m, s2, h => by
    have h' : m + (zs.length + 1) ≤ 1000 := by simpa using h
    obtain ⟨s2', e⟩ := choose_loop (G := G) s0 zs (m + 1) (some (.d z)) (by omega)
    refine ⟨s2', ?_⟩
    have et : (il (rowL m)).tail = il (rowL m).tail := by simp [il]
    have lz : (List.zipWith (· + ·) (rowL m) (rowL m).tail).length = m := by
      rw [List.length_zipWith, List.length_tail, rowL_len]
      omega
    have lp : (pairsD (il (rowL m)) (il (rowL m).tail)).length = m := by
      unfold pairsD
      rw [List.length_zipWith]
      simp only [il, List.length_map, List.length_tail, rowL_len]
      omega
    have c1 : m ≤ 16777216 := by omega
    have c2 : 1 + (il (List.zipWith (· + ·) (rowL m) (rowL m).tail)).length ≤ 16777216 := by
      simp only [il, List.length_map, lz]
      omega
    have c3 : (il (List.zipWith (· + ·) (rowL m) (rowL m).tail)).length + 1 + 1 ≤ 16777216 := by
      simp only [il, List.length_map, lz]
      omega
    rw [forE_c]
    simp -dsimp -implicitDefEqProofs [bChoose, rdVar_eq, cut1, et, lp, c1]
    rw [compE_eq (f := fun e => match e with | .tuple [.int x, .int y] => some (PySem.PyData.int (x + y)) | _ => none) (h := fun e he => by
      obtain ⟨x, y, rfl⟩ := pairs_mem _ _ e he
      simp -dsimp -implicitDefEqProofs [compStep]), pairs_il]
    simp -dsimp -implicitDefEqProofs [rdVar_eq, c2, c3]
    have e3 : il (rowL (m + 1)) = .int 1 :: (il (List.zipWith (· + ·) (rowL m) (rowL m).tail) ++ [.int 1]) := by
      rw [rowL_succ]
      simp [il]
    rw [e3] at e
    unfold bChoose at e
    rw [show m + (zs.length + 1) = m + 1 + zs.length by omega]
    exact e
theorem choose_eq (m : Nat) (hm : m ≤ 900) : call P prim n (k + 1) f__law_choose [.d (.int m)] = .ret (.own (il (rowL m))) := by
  obtain ⟨s2', e⟩ := choose_loop (n := n) (G := call P prim n k) (some (.d (.int m))) (rngD 0 m 1) 0 none (by rw [rng_len]; omega)
  rw [rng_len, Nat.zero_add] at e
  have e0 : il (rowL 0) = [.int 1] := rfl
  rw [e0] at e
  have er := rng_of (m : Int) (by omega) (by omega)
  rw [Int.toNat_natCast] at er
  unfold bChoose at e
  rw [call_s (d := d__law_choose) (h := rfl), run_eq _ _ rfl]
  simp -dsimp -implicitDefEqProofs [d__law_choose, b__law_choose, rdVar_eq, er]
  rw [e]
  simp -dsimp -implicitDefEqProofs
end K92
end

section
set_option linter.all false
set_option maxRecDepth 100000
open TP RR
namespace K92
variable {prim : Nat → List Vl → M Vl} {n k : Nat}
theorem bi_comb (i j : Nat) (hi : i ≤ 1000) (hj : j ≤ 1000) : biD .comb [.int i, .int j] = some (.d (.int (choose i j : Nat))) := by
  show (if 0 ≤ (i : Int) ∧ 0 ≤ (j : Int) ∧ (i : Int) ≤ 1000 ∧ (j : Int) ≤ 1000 then some (Vl.d (.int (choose (i : Int).toNat (j : Int).toNat))) else none) = _
  rw [if_pos (by omega), Int.toNat_natCast, Int.toNat_natCast]
theorem rng_cons (a : Int) (m : Nat) : rngD a (m + 1) 1 = .int a :: rngD (a + 1) m 1 := by
  simp only [rngD, List.range_succ_eq_map, List.map_cons, List.map_map]
  congr 1
  · simp
  · apply List.map_congr_left
    intro i _
    simp only [Function.comp]
    congr 1
    omega
theorem choose_le : ∀ (n k : Nat), choose n k ≤ 2 ^ n
  | n, 0 => by cases n <;> simp [choose, Nat.one_le_two_pow]
  | 0, k + 1 => by simp [choose]
  | n + 1, k + 1 => by
    rw [choose, Nat.pow_succ]
    have := choose_le n k
    have := choose_le n (k + 1)
    omega
theorem choose_lt {N i : Nat} (h : N ≤ 40) : choose N i < 2 ^ 41 := Nat.lt_of_le_of_lt (choose_le N i) (Nat.pow_lt_pow_right (by decide) (by omega))
/-- a multiple of the first binomial numbers -/
def KN (N : Nat) : Nat → Nat
  | 0 => 1
  | m + 1 => KN N m * choose N m
theorem KN_pos {N : Nat} : ∀ m, m ≤ N + 1 → 0 < KN N m
  | 0, _ => by simp [KN]
  | m + 1, h => Nat.mul_pos (KN_pos m (by omega)) (choose_pos N m (by omega))
theorem KN_dvd {N i : Nat} : ∀ m, i < m → choose N i ∣ KN N m
  | 0, h => by omega
  | m + 1, h => by
    by_cases e : i = m
    · rw [e]; exact Nat.dvd_mul_left _ _
    · exact Nat.dvd_trans (KN_dvd m (by omega)) (Nat.dvd_mul_right _ _)
theorem KN_le {N : Nat} (hN : N ≤ 40) : ∀ m, KN N m ≤ 2 ^ (40 * m)
  | 0 => by simp [KN]
  | m + 1 => by
    have h1 := KN_le hN m
    have h2 : choose N m ≤ 2 ^ 40 := Nat.le_trans (choose_le N m) (Nat.pow_le_pow_right (by decide) hN)
    show KN N m * choose N m ≤ 2 ^ (40 * m + 40)
    rw [Nat.pow_add]
    exact Nat.mul_le_mul h1 h2
/-- one share of a number -/
def rt (kk N : Nat) (p : Rat × Nat) : Rat := mkRat (choose kk p.2 : Nat) (choose N p.2) * p.1
theorem rt_eq (kk N : Nat) (p : Rat × Nat) : rt kk N p = C kk p.2 * (p.1 / C N p.2) := by
  unfold rt
  rw [Rat.mkRat_eq_div]
  show ((choose kk p.2 : Nat) : Rat) / (choose N p.2 : Nat) * p.1 = _
  unfold C
  grind
theorem compE_map {G : G1} {own : List Nat} {t : Tg} {cs : Exs} {e : Ex} {s : S} {β : Type} (g : β → D) (f : β → Option D) (ys : List β) (h : ∀ y ∈ ys, compStep G own t cs e (g y) s = .ret (f y, s)) : compE G own t cs e (ys.map g) s = .ret (ys.filterMap f, s) := by
  have key : ∀ (ys : List β) (acc : List D), (∀ y ∈ ys, compStep G own t cs e (g y) s = .ret (f y, s)) → compM own (asg t) (evC G cs) (ev G e) (ys.map g) s acc = .ret (acc ++ ys.filterMap f, s) := by
    intro ys
    induction ys with
    | nil => intro acc _; simp [compM]
    | cons y ys ih =>
      intro acc h
      rw [List.map_cons, compM_c, h y (by simp), bd_ret]
      dsimp only
      rw [ih _ fun z hz => h z (List.mem_cons_of_mem _ hz)]
      cases e1 : f y <;> simp [optL, List.filterMap_cons, e1]
  unfold compE
  rw [key ys [] h]
  rfl
theorem enum_fr (as : List Rat) : enumD (frs as) = as.zipIdx.map fun p => .tuple [.int (p.2 : Nat), fr p.1] := by
  unfold enumD frs
  rw [List.zipIdx_map, List.map_map]
  rfl
def parts (kk N : Nat) (as : List Rat) : List Rat := (as.zipIdx.filter fun p => decide (p.2 ≤ kk)).map (rt kk N)
theorem parts_fr (kk N : Nat) (as : List (Rat × Nat)) : as.filterMap (fun p => if p.2 ≤ kk then some (fr (rt kk N p)) else none) = frs ((as.filter fun p => decide (p.2 ≤ kk)).map (rt kk N)) := by
  induction as with
  | nil => rfl
  | cons p as ih =>
    by_cases h : p.2 ≤ kk
    · simp [List.filterMap_cons, List.filter_cons, h, ih, frs]
    · simp [List.filterMap_cons, List.filter_cons, h, ih, frs]
/-- what is needed of a polynomial and of the number of tosses -/
structure Pn (L l N : Nat) (as : List Rat) : Prop where
  L0 : 0 < L
  L1 : L < 2 ^ 1000
  l1 : l ≤ 10000000
  len : as.length ≤ 9
  deg : as.length ≤ N + 1
  N40 : N ≤ 40
  row : Row L l as
theorem Pn.lN {L l N : Nat} {as : List Rat} (h : Pn L l N as) : l ≤ LN := Nat.le_trans h.l1 (by decide)
theorem Pn.bound {L l N : Nat} {as : List Rat} (h : Pn L l N as) : 0 < L * KN N as.length ∧ L * KN N as.length < 2 ^ LD := by
  refine ⟨Nat.mul_pos h.L0 (KN_pos _ h.deg), ?_⟩
  have h1 := KN_le h.N40 as.length
  have h2 : KN N as.length ≤ 2 ^ 360 := Nat.le_trans h1 (Nat.pow_le_pow_right (by decide) (by have := h.len; omega))
  have h3 : L * KN N as.length ≤ 2 ^ 1000 * 2 ^ 360 := Nat.mul_le_mul (Nat.le_of_lt h.L1) h2
  have h4 : 2 ^ 1000 * 2 ^ 360 < 2 ^ LD := by
    rw [← Nat.pow_add]
    exact Nat.pow_lt_pow_right (by decide) (by decide)
  exact Nat.lt_of_le_of_lt h3 h4
theorem mk_ratio {kk N i : Nat} (hk : kk ≤ 40) (hN : N ≤ 40) (hi : i ≤ N) : Dn (choose N i) (mkRat (choose kk i : Nat) (choose N i)) ∧ Sz 50 (mkRat (choose kk i : Nat) (choose N i)) := by
  have hp := choose_pos N i hi
  refine ⟨⟨(choose kk i : Nat), Rat.mkRat_eq_div _ _⟩, ?_, ?_⟩
  · rw [Rat.den_mkRat, if_neg (by omega)]
    refine Nat.lt_of_le_of_lt (Nat.div_le_self _ _) (Nat.lt_trans (choose_lt hN) (Nat.pow_lt_pow_right (by decide) (by decide)))
  · refine Nat.lt_of_le_of_lt (num_le hp) ?_
    rw [Int.natAbs_natCast]
    exact Nat.lt_trans (choose_lt hk) (Nat.pow_lt_pow_right (by decide) (by decide))
theorem Pn.share {L l N : Nat} {as : List Rat} (h : Pn L l N as) {kk : Nat} (hk : kk ≤ 40) {p : Rat × Nat} (hp : p ∈ as.zipIdx) : p.1 ∈ as ∧ p.2 < as.length ∧ Dn (L * KN N as.length) (rt kk N p) ∧ Sz (50 + l) (rt kk N p) := by
  obtain ⟨a, i⟩ := p
  have hm := List.mem_zipIdx hp
  obtain ⟨_, h2, h3⟩ := hm
  have hi : i < as.length := by omega
  have ha : a ∈ as := by rw [h3]; exact List.getElem_mem _
  obtain ⟨d1, s1⟩ := h.row a ha
  obtain ⟨d2, s2⟩ := mk_ratio (kk := kk) (N := N) (i := i) hk h.N40 (by have := h.deg; omega)
  have d3 : Dn (L * KN N as.length) (rt kk N (a, i)) := by
    have d4 := (d2.of_dvd (KN_dvd as.length hi) (KN_pos _ h.deg)).mul d1
    rwa [Nat.mul_comm] at d4
  exact ⟨ha, hi, d3, s2.times s1 (dn_sz h.bound.1 h.bound.2 d3)⟩
theorem parts_row {L l N : Nat} {as : List Rat} (h : Pn L l N as) {kk : Nat} (hk : kk ≤ 40) : Row (L * KN N as.length) (50 + l) (parts kk N as) ∧ (parts kk N as).length ≤ 9 := by
  refine ⟨fun q hq => ?_, ?_⟩
  · obtain ⟨p, hp, rfl⟩ := List.mem_map.mp hq
    have hp' := (List.mem_filter.mp hp).1
    obtain ⟨_, _, d, s⟩ := h.share hk hp'
    exact ⟨d, s⟩
  · unfold parts
    rw [List.length_map]
    have h1 := List.length_filter_le (fun p : Rat × Nat => decide (p.2 ≤ kk)) as.zipIdx
    rw [List.length_zipIdx] at h1
    have := h.len
    omega
def num (kk N : Nat) (as : List Rat) : Rat := sumL 0 (parts kk N as)
def bNums : Sts := .cons (.asg 4 (.comp (.call f_times (.cons (.call f_lowest (.cons (.bi .comb (.cons (.bor 3) (.cons (.bor 5) .nil))) (.cons (.bi .comb (.cons (.bor 1) (.cons (.bor 5) .nil))) .nil))) (.cons (.var 6) .nil))) (.tp (.cons (.nm 5) (.cons (.nm 6) .nil))) (.enum (.var 0)) (.cons (.cmp .le (.bor 5) (.bor 3)) .nil) [5, 6])) (.cons (.append 2 (.call f_total (.cons (.var 4) .nil))) .nil)
theorem nums_loop (hn : Fuel n) {L l N : Nat} {as : List Rat} (h : Pn L l N as) : ∀ (m j : Nat) (fs : List Rat) (s3 s4 : Option Vl), j + m = N + 1 → fs.length = j → ∃ s3' s4', forE (call P prim n (k + 4)) n (.nm 3) bNums (rngD j m 1) [some (.d (.tuple (frs as))), some (.d (.int N)), some (.own (frs fs)), s3, s4, none, none] = .ret (.nx [some (.d (.tuple (frs as))), some (.d (.int N)), some (.own (frs (fs ++ (List.range' j m).map fun kk => num kk N as))), s3', s4', none, none])
  | 0, j, fs, s3, s4, _, _ => ⟨s3, s4, by simp [rngD]⟩
  | m + 1, j, fs, s3, s4, hm, hf => by
    have hj : j ≤ 40 := by have := h.N40; omega
    have hN := h.N40
    obtain ⟨r1, r2⟩ := parts_row h (kk := j) hj
    obtain ⟨s3', s4', e⟩ := nums_loop hn h m (j + 1) (fs ++ [num j N as]) (some (.d (.int j))) (some (.d (.list (frs (parts j N as))))) (by omega) (by rw [List.length_append, List.length_singleton, hf])
    refine ⟨s3', s4', ?_⟩
    have ez : (as.zipIdx.map fun p => PySem.PyData.tuple [.int (p.2 : Nat), fr p.1]).length ≤ 16777216 := by
      rw [List.length_map, List.length_zipIdx]
      have := h.len
      omega
    have tot := total_eq (prim := prim) (k := k) hn h.bound.1 h.bound.2 (parts j N as) r1 (by
      have : (parts j N as).length * (LD + 1) ≤ 9 * (LD + 1) := Nat.mul_le_mul_right _ r2
      have h9 : 50 + 10000000 + 9 * (LD + 1) ≤ LN := by decide
      have := h.l1
      omega)
    have el : (frs fs).length < 16777216 := by simp only [frs, List.length_map, hf]; omega
    have hlen := h.len
    have hlen2 : as.length ≤ 16777216 := by omega
    rw [rng_cons, forE_c]
    simp -dsimp -implicitDefEqProofs [bNums, rdVar_eq, enum_fr, ez, hlen2]
    rw [compE_map (g := fun p : Rat × Nat => .tuple [.int (p.2 : Nat), fr p.1]) (f := fun p => if p.2 ≤ j then some (fr (rt j N p)) else none) (h := fun p hp => by
      obtain ⟨ha, hi, d, s⟩ := h.share hj hp
      by_cases hc : p.2 ≤ j
      · have c1 := bi_comb j p.2 (by omega) (by omega)
        have c2 := bi_comb N p.2 (by omega) (by omega)
        have lw := lowest_eq (prim := prim) (k := k + 2) hn (choose j p.2 : Nat) (choose N p.2) (choose_pos N p.2 (by have := h.deg; omega)) (Nat.lt_trans (choose_lt hN) (Nat.pow_lt_pow_right (by decide) (by decide)))
        obtain ⟨_, s1⟩ := h.row p.1 ha
        have tm := times_eq (prim := prim) (k := k + 1) hn (mk_ratio (kk := j) (N := N) (i := p.2) hj hN (by have := h.deg; omega)).2 s1 (by decide) h.lN
        simp -dsimp -implicitDefEqProofs [compStep, rdVar_eq, hc, c1, c2, lw, tm, rt]
      · simp -dsimp -implicitDefEqProofs [compStep, rdVar_eq, hc])]
    rw [parts_fr]
    simp -dsimp -implicitDefEqProofs [rdVar_eq]
    have ep : (as.zipIdx.filter fun p => decide (p.2 ≤ j)).map (rt j N) = parts j N as := rfl
    rw [ep]
    simp -dsimp -implicitDefEqProofs [rdVar_eq, tot, el]
    have e1 : frs fs ++ [fr (sumL 0 (parts j N as))] = frs (fs ++ [num j N as]) := by simp [frs, num]
    have e2 : fs ++ (List.range' j (m + 1)).map (fun kk => num kk N as) = fs ++ [num j N as] ++ (List.range' (j + 1) m).map fun kk => num kk N as := by simp [List.range'_succ]
    rw [e1, e2]
    exact e
def nums (N : Nat) (as : List Rat) : List Rat := (List.range' 0 (N + 1)).map fun kk => num kk N as
theorem raw_numbers_eq (hn : Fuel n) {L l N : Nat} {as : List Rat} (h : Pn L l N as) : call P prim n (k + 5) f_raw_numbers [.d (.tuple (frs as)), .d (.int N)] = .ret (.d (.tuple (frs (nums N as)))) := by
  obtain ⟨s3', s4', e⟩ := nums_loop (prim := prim) (k := k) hn h (N + 1) 0 [] none none (by omega) rfl
  have hN := h.N40
  have er := rng_of ((N : Int) + 1) (by omega) (by omega)
  rw [show ((N : Int) + 1).toNat = N + 1 by omega] at er
  unfold bNums at e
  have e0 : frs [] = [] := rfl
  rw [e0, List.nil_append] at e
  rw [call_s (d := d_raw_numbers) (h := rfl), run_eq _ _ rfl]
  simp -dsimp -implicitDefEqProofs [d_raw_numbers, b_raw_numbers, rdVar_eq, er]
  have e' := e
  rw [show ((0 : Nat) : Int) = 0 from rfl] at e'
  rw [e']
  simp -dsimp -implicitDefEqProofs [rdVar_eq, nums]
/-! ### the law's numbers -/
theorem atI_nat {α : Type} (xs : List α) (i : Nat) {x : α} (h : xs[i]? = some x) : L2.atI xs (i : Int) = some x := by
  have hi : i < xs.length := (List.getElem?_eq_some_iff.mp h).1
  unfold L2.atI L2.ixN
  rw [if_pos (by omega), if_pos (by omega)]
  simpa using h
def rowsL (N : Nat) : List D := (List.range' 0 (N + 1)).map fun kk => .list (il (rowL kk))
theorem rows_at {N i : Nat} (h : i ≤ N) : L2.atI (rowsL N) (i : Int) = some (.list (il (rowL i))) := by
  refine atI_nat _ _ ?_
  unfold rowsL
  rw [List.getElem?_map, List.getElem?_range' (by omega)]
  simp
theorem row_at {kk i : Nat} (h : i ≤ kk) : L2.atI (il (rowL kk)) (i : Int) = some (.int (choose kk i : Nat)) := by
  refine atI_nat _ _ ?_
  unfold il
  rw [List.getElem?_map, rowL_get kk i h]
  rfl
def lnum (kk N : Nat) (f : Rat) (ps : List (Rat × Nat)) : Rat := ps.foldl (fun f p => f + rt kk N p) f
def bLn : Sts := .cons (.asg 5 (.call f__law_plus (.cons (.var 5) (.cons (.call f__law_times (.cons (.var 7) (.cons (.tup (.cons (.idx (.idx (.bor 2) (.bor 4)) (.bor 6)) (.cons (.idx (.idx (.bor 2) (.bor 1)) (.bor 6)) .nil))) .nil))) .nil)))) .nil
theorem ln_loop (hn : Fuel n) {L l N : Nat} {as : List Rat} (h : Pn L l N as) {kk : Nat} (hk : kk ≤ N) (s0 s3 : Option Vl) : ∀ (ps : List (Rat × Nat)) (f : Rat) (i : Nat) (s6 s7 : Option Vl), (∀ p ∈ ps, p ∈ as.zipIdx ∧ p.2 ≤ kk) → Dn (L * KN N as.length) f → Sz (50 + l + i * (LD + 1)) f → i + ps.length ≤ 9 →
    ∃ s6' s7', forE (call P prim n (k + 4)) n (.tp (.cons (.nm 6) (.cons (.nm 7) .nil))) bLn (ps.map fun p => .tuple [.int (p.2 : Nat), fr p.1]) [s0, some (.d (.int N)), some (.own (rowsL N)), s3, some (.d (.int kk)), some (.d (fr f)), s6, s7] = .ret (.nx [s0, some (.d (.int N)), some (.own (rowsL N)), s3, some (.d (.int kk)), some (.d (fr (lnum kk N f ps))), s6', s7'])
  | [], f, i, s6, s7, _, _, _, _ => ⟨s6, s7, by simp [lnum]⟩
  | p :: ps, f, i, s6, s7, hp, hf, hs, hl => by
    obtain ⟨hp1, hp2⟩ := hp p (by simp)
    have hN := h.N40
    obtain ⟨ha, hi, d, s⟩ := h.share (kk := kk) (by omega) hp1
    have e0 : (i + 1) * (LD + 1) = i * (LD + 1) + (LD + 1) := Nat.succ_mul _ _
    have hpl := hf.add d
    have hps : Sz (50 + l + (i + 1) * (LD + 1)) (f + rt kk N p) := (hs.plus (k := 50 + l + i * (LD + 1)) s (Nat.le_refl _) (by omega) (dn_sz h.bound.1 h.bound.2 hpl)).mono (by omega)
    obtain ⟨s6', s7', e⟩ := ln_loop hn h hk s0 s3 ps (f + rt kk N p) (i + 1) (some (.d (.int (p.2 : Nat)))) (some (.d (fr p.1))) (fun q hq => hp q (List.mem_cons_of_mem _ hq)) hpl hps (by rw [List.length_cons] at hl; omega)
    refine ⟨s6', s7', ?_⟩
    obtain ⟨_, s1⟩ := h.row p.1 ha
    have hpos := choose_pos N p.2 (by have := h.deg; omega)
    have cl := choose_lt (N := kk) (i := p.2) (by omega)
    have cL := choose_lt (N := N) (i := p.2) (by omega)
    have tm := ltimes_raw (prim := prim) (k := k + 2) hn p.1.num (choose kk p.2 : Nat) p.1.den (choose N p.2) p.1.den_pos hpos (b1_lt (l := l) (m := 41) s1.n (by rw [Int.natAbs_natCast]; exact cl) (by have := h.l1; omega)) (b1_lt (l := LD) (m := 41) (by rw [Int.natAbs_natCast]; exact s1.d) (by rw [Int.natAbs_natCast]; exact cL) (by decide)) (by
      have : p.1.den * choose N p.2 < 2 ^ (LD + 41) := by
        rw [Nat.pow_add]
        exact Nat.mul_lt_mul'' s1.d cL
      exact Nat.lt_of_lt_of_le this (Nat.pow_le_pow_right (by decide) (by decide)))
    have em : mkRat (p.1.num * (choose kk p.2 : Nat)) (p.1.den * choose N p.2) = rt kk N p := by
      unfold rt
      rw [Rat.mul_comm, ← Rat.mkRat_mul_mkRat, Rat.mkRat_self]
    rw [em] at tm
    have tm2 : call P prim n (k + 4) f__law_times [.d (fr p.1), .d (.tuple [.int (choose kk p.2 : Nat), .int (choose N p.2 : Nat)])] = .ret (.d (fr (rt kk N p))) := tm
    have nine : i * (LD + 1) ≤ 9 * (LD + 1) := Nat.mul_le_mul_right _ (by omega)
    have ninb : 50 + 10000000 + 9 * (LD + 1) ≤ LN := by decide
    have hl1 := h.l1
    have pl := lplus_eq (prim := prim) (k := k + 2) hn hs s (by omega) (by omega)
    have a1 := rows_at (N := N) (i := kk) hk
    have a2 := rows_at (N := N) (i := N) (Nat.le_refl _)
    have a3 := row_at (kk := kk) (i := p.2) hp2
    have a4 := row_at (kk := N) (i := p.2) (by omega)
    rw [List.map_cons, forE_c]
    simp -dsimp -implicitDefEqProofs [bLn, rdVar_eq, a1, a2, a3, a4, tm2, pl]
    unfold bLn at e
    exact e
end K92
end

section
set_option linter.all false
set_option maxRecDepth 100000
open TP RR
namespace K92
variable {prim : Nat → List Vl → M Vl} {n k : Nat}
theorem rng_map (m : Nat) : rngD 0 m 1 = (List.range' 0 m).map fun i => .int ((i : Nat) : Int) := by
  rw [← List.range_eq_range']
  simp [rngD]
theorem take_zip {as : List Rat} {m : Nat} {p : Rat × Nat} (h : p ∈ (as.take m).zipIdx) : p ∈ as.zipIdx ∧ p.2 < m := by
  obtain ⟨a, i⟩ := p
  have hm := List.mem_zipIdx h
  obtain ⟨_, h2, h3⟩ := hm
  rw [List.length_take] at h2
  refine ⟨?_, by omega⟩
  rw [List.mem_zipIdx_iff_getElem?]
  rw [h3]
  simp
theorem filter_take (m : Nat) : ∀ (as : List Rat) (o : Nat), ((as.zipIdx o).filter fun p => decide (p.2 < o + m)) = (as.take m).zipIdx o := by
  induction m with
  | zero =>
    intro as o
    rw [List.take_zero, List.zipIdx_nil, List.filter_eq_nil_iff]
    intro p hp
    have := List.le_snd_of_mem_zipIdx hp
    simp
    omega
  | succ m ih =>
    intro as o
    cases as with
    | nil => rfl
    | cons a as =>
      rw [List.take_succ_cons, List.zipIdx_cons, List.zipIdx_cons, List.filter_cons, if_pos (by simp)]
      congr 1
      have := ih as (o + 1)
      rw [show o + 1 + m = o + (m + 1) by omega] at this
      exact this
theorem lnum_eq (kk N : Nat) (as : List Rat) : lnum kk N 0 (as.take (kk + 1)).zipIdx = num kk N as := by
  unfold num parts sumL lnum
  have e := filter_take (kk + 1) as 0
  rw [Nat.zero_add] at e
  have e2 : (as.zipIdx.filter fun p => decide (p.2 ≤ kk)) = (as.take (kk + 1)).zipIdx := by
    rw [← e]
    congr 1
    funext p
    simp [Nat.lt_succ_iff]
  rw [e2, List.foldl_map]
def bLN : Sts := .cons (.asg 5 (.tup (.cons (.int 0) (.cons (.int 1) .nil)))) (.cons (.for_ (.tp (.cons (.nm 6) (.cons (.nm 7) .nil))) (.enum (.slc (.bor 0) .nil (.cons (.bin .add (.bor 4) (.int 1)) .nil))) bLn) (.cons (.append 3 (.var 5)) .nil))
theorem lnums_loop (hn : Fuel n) {L l N : Nat} {as : List Rat} (h : Pn L l N as) : ∀ (m j : Nat) (fs : List Rat) (s4 s5 s6 s7 : Option Vl), j + m = N + 1 → fs.length = j → ∃ s4' s5' s6' s7', forE (call P prim n (k + 4)) n (.nm 4) bLN (rngD j m 1) [some (.d (.tuple (frs as))), some (.d (.int N)), some (.own (rowsL N)), some (.own (frs fs)), s4, s5, s6, s7] = .ret (.nx [some (.d (.tuple (frs as))), some (.d (.int N)), some (.own (rowsL N)), some (.own (frs (fs ++ (List.range' j m).map fun kk => num kk N as))), s4', s5', s6', s7'])
  | 0, j, fs, s4, s5, s6, s7, _, _ => ⟨s4, s5, s6, s7, by simp [rngD]⟩
  | m + 1, j, fs, s4, s5, s6, s7, hm, hf => by
    have hN := h.N40
    have hlen := h.len
    obtain ⟨t6, t7, e1⟩ := ln_loop (prim := prim) (k := k) hn h (kk := j) (by omega) (some (.d (.tuple (frs as)))) (some (.own (frs fs))) (as.take (j + 1)).zipIdx 0 0 s6 s7 (fun p hp => by
      obtain ⟨q1, q2⟩ := take_zip hp
      exact ⟨q1, by omega⟩) (zero_dn _) (zero_sz _) (by rw [List.length_zipIdx, List.length_take]; omega)
    rw [lnum_eq, fr_zero] at e1
    obtain ⟨s4', s5', s6', s7', e⟩ := lnums_loop hn h m (j + 1) (fs ++ [num j N as]) (some (.d (.int j))) (some (.d (fr (num j N as)))) t6 t7 (by omega) (by rw [List.length_append, List.length_singleton, hf])
    refine ⟨s4', s5', s6', s7', ?_⟩
    have ec : cut (frs as) none (some ((j : Int) + 1)) = frs (as.take (j + 1)) := by
      rw [cut_to _ _ (by omega), show ((j : Int) + 1).toNat = j + 1 by omega]
      simp [frs]
    have el : (frs fs).length < 16777216 := by simp only [frs, List.length_map, hf]; omega
    have e3 : fs ++ (List.range' j (m + 1)).map (fun kk => num kk N as) = fs ++ [num j N as] ++ (List.range' (j + 1) m).map fun kk => num kk N as := by simp [List.range'_succ]
    have e4 : frs (fs ++ [num j N as]) = frs fs ++ [fr (num j N as)] := by simp [frs]
    rw [e4] at e
    rw [rng_cons, forE_c, e3]
    simp -dsimp -implicitDefEqProofs [bLN, rdVar_eq, ec, enum_fr]
    rw [e1]
    simp -dsimp -implicitDefEqProofs [rdVar_eq, el]
    simpa [bLN] using e
theorem law_numbers_eq (hn : Fuel n) {L l N : Nat} {as : List Rat} (h : Pn L l N as) : call P prim n (k + 5) f__law_numbers [.d (.tuple (frs as)), .d (.int N)] = .ret (.d (.tuple (frs (nums N as)))) := by
  obtain ⟨s4', s5', s6', s7', e⟩ := lnums_loop (prim := prim) (k := k) hn h (N + 1) 0 [] none none none none (by omega) rfl
  have hN := h.N40
  have er := rng_of ((N : Int) + 1) (by omega) (by omega)
  rw [show ((N : Int) + 1).toNat = N + 1 by omega] at er
  have c1 : (rngD 0 (N + 1) 1).length ≤ 16777216 := by rw [rng_len]; omega
  unfold bLN bLn at e
  have e0 : frs [] = [] := rfl
  rw [e0, List.nil_append, show ((0 : Nat) : Int) = 0 from rfl] at e
  rw [call_s (d := d__law_numbers) (h := rfl), run_eq _ _ rfl]
  simp -dsimp -implicitDefEqProofs [d__law_numbers, b__law_numbers, rdVar_eq, er, c1]
  have ec : compE (call P prim n (k + 4)) [4] (.nm 4) .nil (.call f__law_choose (.cons (.var 4) .nil)) (rngD 0 (N + 1) 1) [some (.d (.tuple (frs as))), some (.d (.int N)), none, none, none, none, none, none] = .ret (rowsL N, [some (.d (.tuple (frs as))), some (.d (.int N)), none, none, none, none, none, none]) := by
    rw [rng_map, compE_map (g := fun i : Nat => .int (i : Int)) (f := fun i => some (.list (il (rowL i)))) (h := fun i hi => by
      have hi' : i ≤ 900 := by
        have := (List.mem_range'_1.mp hi).2
        omega
      simp -dsimp -implicitDefEqProofs [compStep, rdVar_eq, choose_eq i hi'])]
    simp [rowsL]
  rw [ec]
  simp -dsimp -implicitDefEqProofs [rdVar_eq, er]
  rw [e]
  simp -dsimp -implicitDefEqProofs [nums]
/-! ### numbers by differences -/
/-- the factors of a polynomial by binomial numbers -/
def cf (as : List Rat) (N : Nat) : Sq := fun i => as.getD i 0 / C N i
theorem sum_zip (g : Rat × Nat → Rat) (hg : ∀ i, g (0, i) = 0) : ∀ (m : Nat) (as : List Rat) (f : Rat), ((as.take m).zipIdx.foldl (fun f p => f + g p) f) = f + sm m fun i => g (as.getD i 0, i) := by
  intro m
  induction m with
  | zero => intro as f; simp [sm]; grind
  | succ m ih =>
    intro as f
    by_cases h : m < as.length
    · have e : (as.take (m + 1)).zipIdx = (as.take m).zipIdx ++ [(as.getD m 0, m)] := by
        rw [List.take_succ_eq_append_getElem h, List.zipIdx_append]
        congr 1
        rw [List.length_take, Nat.min_eq_left (by omega)]
        simp [List.getD_eq_getElem?_getD, h]
      rw [e, List.foldl_append, ih as f]
      show f + sm m _ + g (as.getD m 0, m) = f + (sm m _ + g (as.getD m 0, m))
      grind
    · have e : as.take (m + 1) = as.take m := by rw [List.take_of_length_le (by omega), List.take_of_length_le (by omega)]
      have e2 : as.getD m 0 = 0 := by rw [List.getD_eq_getElem?_getD, List.getElem?_eq_none (by omega)]; rfl
      rw [e, ih as f, sm, e2, hg]
      grind
theorem num_P (kk N : Nat) (as : List Rat) : num kk N as = RR.P kk (cf as N) := by
  rw [← lnum_eq]
  unfold lnum
  rw [sum_zip (rt kk N) (fun i => by rw [rt_eq]; grind) (kk + 1) as 0]
  unfold RR.P
  rw [Rat.zero_add]
  refine sm_congr fun i _ => ?_
  rw [rt_eq]
  rfl
end K92
end

section
set_option linter.all false
set_option maxRecDepth 100000
open TP RR
namespace K92
variable {prim : Nat → List Vl → M Vl} {n k : Nat}
/-- without the noughts at the end -/
def cutQ : List Rat → List Rat
  | [] => []
  | a :: as => match cutQ as with
    | [] => if a = 0 then [] else [a]
    | r => a :: r
theorem cutQ_snoc0 : ∀ as : List Rat, cutQ (as ++ [0]) = cutQ as
  | [] => by simp [cutQ]
  | a :: as => by
    have ih := cutQ_snoc0 as
    show (match cutQ (as ++ [0]) with | [] => if a = 0 then [] else [a] | r => a :: r) = (match cutQ as with | [] => if a = 0 then [] else [a] | r => a :: r)
    rw [ih]
theorem cutQ_snoc : ∀ (as : List Rat) (q : Rat), q ≠ 0 → cutQ (as ++ [q]) = as ++ [q]
  | [], q, h => by simp [cutQ, h]
  | a :: as, q, h => by
    have ih := cutQ_snoc as q h
    show (match cutQ (as ++ [q]) with | [] => if a = 0 then [] else [a] | r => a :: r) = a :: (as ++ [q])
    rw [ih]
    cases as <;> rfl
theorem fr_eq0 {q : Rat} : q.num = 0 ↔ q = 0 := Rat.num_eq_zero
theorem eqv_fr (p q : Rat) : PySem.PyData.eqv (fr p) (fr q) = decide (p = q) := by
  unfold fr
  rw [eqv_frac, Bool.eq_iff_iff]
  simp only [Bool.and_eq_true, decide_eq_true_eq]
  constructor
  · rintro ⟨h1, h2⟩
    exact Rat.ext h1 (by omega)
  · rintro rfl
    exact ⟨rfl, rfl⟩
theorem lay_fr (p : Rat) : lay (fr p) = true := lay_frac _ _
theorem cmp_fr (p q : Rat) : cmpD .eq (fr p) (fr q) = some (decide (p = q)) := by
  rw [cmp_eqG (by rw [lay_fr, lay_fr]; rfl), eqv_fr]
theorem snoc_cases {α : Type} (as : List α) : as = [] ∨ ∃ bs b, as = bs ++ [b] := by
  rcases List.eq_nil_or_concat as with h | ⟨bs, b, h⟩
  · exact .inl h
  · exact .inr ⟨bs, b, by rw [h, List.concat_eq_append]⟩
def bWn : Sts := .cons (.asg 1 (.bin .sub (.bor 1) (.int 1))) .nil
def cWn : Ex := .and (.cmp .gt (.bor 1) (.int 0)) (.cmp .eq (.idx (.bor 0) (.bin .sub (.bor 1) (.int 1))) (.glob "ZERO" (.tuple [(.int 0), (.int 1)])))
theorem wn_loop {G : G1} (v0 : Vl) (ws : List D) (hv : v0 = .own ws ∨ v0 = .d (.list ws)) : ∀ (m : Nat) (as rest : List Rat) (f : Nat), ws = frs as ++ frs rest → as.length = m → m < f → ∃ as' rest', frs as' ++ frs rest' = ws ∧ cutQ as = as' ∧ whileE G n cWn bWn f [some v0, some (.d (.int m))] = .ret (.nx [some v0, some (.d (.int as'.length))])
  | 0, as, rest, f, hw, hl, hf => by
    obtain ⟨f, rfl⟩ : ∃ f', f = f' + 1 := ⟨f - 1, by omega⟩
    have : as = [] := List.eq_nil_of_length_eq_zero hl
    subst this
    refine ⟨[], rest, by rw [hw], rfl, ?_⟩
    rw [whileE_s]
    simp -dsimp -implicitDefEqProofs [cWn]
  | m + 1, as, rest, f, hw, hl, hf => by
    obtain ⟨f, rfl⟩ : ∃ f', f = f' + 1 := ⟨f - 1, by omega⟩
    rcases snoc_cases as with e | ⟨bs, b, e⟩
    · subst e
      simp at hl
    · subst e
      have hb : bs.length = m := by simpa using hl
      have e1 : L2.atI ws ((m : Int)) = some (fr b) := by
        refine atI_nat _ _ ?_
        rw [hw]
        simp [frs, hb]
      have e2 : ((m : Int) + 1 - 1) = m := by omega
      have e3 : (0 : Int) < (m : Int) + 1 := by omega
      have ec : cmpD .eq (fr b) (.tuple [.int 0, .int 1]) = some (decide (b = 0)) := cmp_fr b 0
      by_cases h0 : b = 0
      · have ec : cmpD .eq (fr b) (.tuple [.int 0, .int 1]) = some true := by rw [ec, h0]; rfl
        obtain ⟨as', rest', h1, h2, h3⟩ := wn_loop (G := G) v0 ws hv m bs (b :: rest) f (by rw [hw]; simp [frs]) hb (by omega)
        refine ⟨as', rest', h1, by rw [h0, cutQ_snoc0]; exact h2, ?_⟩
        rw [whileE_s]
        rcases hv with rfl | rfl <;>
        · simp -dsimp -implicitDefEqProofs [cWn, bWn, e1, e2, e3, ec]
          unfold cWn bWn at h3
          exact h3
      · refine ⟨bs ++ [b], rest, hw.symm, cutQ_snoc bs b h0, ?_⟩
        rw [whileE_s]
        rcases hv with rfl | rfl <;>
        · simp -dsimp -implicitDefEqProofs [cWn, bWn, e1, e2, e3, ec, h0, hb]
theorem without_eq (hn : Fuel n) (as : List Rat) (hl : as.length ≤ 100) : call P prim n (k + 1) f_without_noughts [.d (.list (frs as))] = .ret (.d (.tuple (frs (cutQ as)))) := by
  obtain ⟨as', rest', h1, h2, h3⟩ := wn_loop (n := n) (G := call P prim n k) (.d (.list (frs as))) (frs as) (.inr rfl) as.length as [] n (by simp [frs]) rfl (by
    have := hn.lt (d := 100) (Nat.lt_of_lt_of_le (show 100 < 2 ^ 7 by decide) (Nat.pow_le_pow_right (by decide) (by decide)))
    omega)
  unfold cWn bWn at h3
  have ec : cut (frs as) none (some (as'.length : Int)) = frs as' := by
    rw [cut_to _ _ (by omega), Int.toNat_natCast, ← h1]
    have : (frs as').length = as'.length := by simp [frs]
    rw [← this]
    simp
  have el : (frs as).length = as.length := by simp [frs]
  rw [call_s (d := d_without_noughts) (h := rfl), run_eq _ _ rfl]
  simp -dsimp -implicitDefEqProofs [d_without_noughts, b_without_noughts, rdVar_eq, el]
  rw [h3]
  simp -dsimp -implicitDefEqProofs [rdVar_eq, ec, h2]
end K92
end

section
set_option linter.all false
set_option maxRecDepth 100000
open TP RR
namespace K92
variable {prim : Nat → List Vl → M Vl} {n k : Nat}
def bLc : Sts := .cons (.expr (.pop 1)) .nil
def cLc : Ex := .and (.cmp .ne (.bor 1) (.lst .nil)) (.cmp .eq (.idx (.idx (.bor 1) (.neg (.int 1))) (.int 0)) (.int 0))
theorem frs_snoc (as : List Rat) (b : Rat) : frs (as ++ [b]) = frs as ++ [fr b] := by simp [frs]
theorem frs_shape : ∀ as : List Rat, PySem.PyData.canLayAll0 (frs as) = true ∧ PySem.PyData.depthAll (frs as) ≤ 3
  | [] => ⟨rfl, by simp [frs, PySem.PyData.depthAll]⟩
  | a :: as => by
    obtain ⟨h1, h2⟩ := frs_shape as
    show PySem.PyData.canLayAll0 (fr a :: frs as) = true ∧ PySem.PyData.depthAll (fr a :: frs as) ≤ 3
    refine ⟨by simp [fr, PySem.PyData.canLayAll0, PySem.PyData.canLay0, h1], ?_⟩
    simp only [fr, PySem.PyData.depthAll, PySem.PyData.depth]
    omega
theorem lay_frs (as : List Rat) : lay (.tuple (frs as)) = true := lay_of (frs_shape as).1 (Nat.le_trans (frs_shape as).2 (by decide))
theorem lay_frsL (as : List Rat) : lay (.list (frs as)) = true := by
  obtain ⟨h1, h2⟩ := frs_shape as
  show (PySem.PyData.canLay0 (.list (frs as)) && decide ((PySem.PyData.list (frs as)).depth ≤ 64)) = true
  have e : (PySem.PyData.list (frs as)).depth ≤ 64 := by simp only [PySem.PyData.depth]; omega
  simp only [PySem.PyData.canLay0, h1, e, decide_true, Bool.and_self]
theorem ne_nilL (as : List Rat) : cmpD .ne (.list (frs as)) (.list []) = some (!as.isEmpty) := by
  rw [cmp_neG (by rw [lay_frsL, lay_nil]; rfl)]
  cases as <;> simp [frs, PySem.PyData.eqv, PySem.PyData.eqvAll]
theorem lc_loop {G : G1} (s0 : Option Vl) : ∀ (m : Nat) (as : List Rat) (f : Nat), as.length = m → m < f → whileE G n cLc bLc f [s0, some (.own (frs as))] = .ret (.nx [s0, some (.own (frs (cutQ as)))])
  | 0, as, f, hl, hf => by
    obtain ⟨f, rfl⟩ : ∃ f', f = f' + 1 := ⟨f - 1, by omega⟩
    have : as = [] := List.eq_nil_of_length_eq_zero hl
    subst this
    rw [whileE_s]
    have en : cmpD .ne (.list (frs [])) (.list []) = some false := ne_nilL []
    simp -dsimp -implicitDefEqProofs [cLc, en]
    simp [frs, cutQ]
  | m + 1, as, f, hl, hf => by
    obtain ⟨f, rfl⟩ : ∃ f', f = f' + 1 := ⟨f - 1, by omega⟩
    rcases snoc_cases as with e | ⟨bs, b, e⟩
    · subst e
      simp at hl
    · subst e
      have hb : bs.length = m := by simpa using hl
      have e1 : L2.atI (frs bs ++ [fr b]) (-1) = some (.tuple [.int b.num, .int b.den]) := atI_last _ _
      have e2 : L2.atI [PySem.PyData.int b.num, .int b.den] 0 = some (.int b.num) := (atI2 _ _).1
      have e3 : cmpD .ne (.list (frs bs ++ [fr b])) (.list []) = some true := by
        rw [← frs_snoc, ne_nilL]
        cases bs <;> rfl
      by_cases h0 : b = 0
      · have ih := lc_loop (G := G) s0 m bs f hb (by omega)
        have hz : b.num = 0 := by rw [h0]; rfl
        have ec : cutQ (bs ++ [b]) = cutQ bs := by rw [h0, cutQ_snoc0]
        rw [ec, frs_snoc, whileE_s]
        have e4 : L2.atI [PySem.PyData.int b.num, .int b.den] 0 = some (.int 0) := e2.trans (by rw [hz])
        simp -dsimp -implicitDefEqProofs [cLc, bLc, e1, e3, e4]
        simpa -dsimp -implicitDefEqProofs [cLc, bLc] using ih
      · have hz : b.num ≠ 0 := fun h => h0 (Rat.num_eq_zero.mp h)
        rw [cutQ_snoc bs b h0, frs_snoc, whileE_s]
        simp -dsimp -implicitDefEqProofs [cLc, bLc, e1, e3, e2, hz]
theorem law_cut_eq (hn : Fuel n) (as : List Rat) (hl : as.length ≤ 100) : call P prim n (k + 1) f__law_cut [.d (.list (frs as))] = .ret (.d (.tuple (frs (cutQ as)))) := by
  have h3 := lc_loop (n := n) (G := call P prim n k) (some (.d (.list (frs as)))) as.length as n rfl (by
    have := hn.lt (d := 100) (Nat.lt_of_lt_of_le (show 100 < 2 ^ 7 by decide) (Nat.pow_le_pow_right (by decide) (by decide)))
    omega)
  unfold cLc bLc at h3
  rw [call_s (d := d__law_cut) (h := rfl), run_eq _ _ rfl]
  simp -dsimp -implicitDefEqProofs [d__law_cut, b__law_cut, rdVar_eq]
  rw [h3]
  simp -dsimp -implicitDefEqProofs [rdVar_eq]
end K92
end

section
set_option linter.all false
set_option maxRecDepth 100000
open TP RR
namespace K92
variable {prim : Nat → List Vl → M Vl} {n k : Nat}
/-- the numbers of a factory as a sequence -/
def sq (bs : List Rat) : Sq := fun i => bs.getD i 0
def LB : Nat := 3900
/-- what is needed of numbers -/
structure Nu (L l N : Nat) (bs : List Rat) : Prop where
  L0 : 0 < L
  L1 : L < 2 ^ LB
  l1 : l ≤ 50000000
  len : bs.length = N + 1
  N40 : N ≤ 40
  row : Row L l bs
section
variable {L l N : Nat} {bs : List Rat}
theorem Nu.lt (h : Nu L l N bs) : L < 2 ^ LD := Nat.lt_trans h.L1 (Nat.pow_lt_pow_right (by decide) (by decide))
theorem sq_get {i : Nat} (h : i < bs.length) : bs[i]? = some (sq bs i) := by
  simp [sq, List.getD_eq_getElem?_getD, h]
theorem Nu.it (h : Nu L l N bs) : ∀ (j i : Nat), i + j ≤ N → Dn L (It j (sq bs) i) ∧ Sz (l + j * (LD + 1)) (It j (sq bs) i)
  | 0, i, hi => by
    have hl := h.len
    have := h.row (sq bs i) (List.mem_of_getElem? (sq_get (i := i) (by omega)))
    exact ⟨this.1, this.2.mono (by omega)⟩
  | j + 1, i, hi => by
    obtain ⟨d1, s1⟩ := h.it j (i + 1) (by omega)
    obtain ⟨d0, s0⟩ := h.it j i (by omega)
    have e : It (j + 1) (sq bs) i = It j (sq bs) (i + 1) - It j (sq bs) i := by rw [RR.It, It_Dl]; rfl
    have e0 : (j + 1) * (LD + 1) = j * (LD + 1) + (LD + 1) := Nat.succ_mul _ _
    rw [e]
    have d := d1.sub d0
    exact ⟨d, (s1.minus (k := l + j * (LD + 1)) s0 (Nat.le_refl _) (Nat.le_refl _) (dn_sz h.L0 h.lt d)).mono (by omega)⟩
theorem Nu.le (h : Nu L l N bs) {j : Nat} (hj : j ≤ N) : l + j * (LD + 1) ≤ LN := by
  have h1 := h.N40
  have h2 := h.l1
  have : j * (LD + 1) ≤ 40 * (LD + 1) := Nat.mul_le_mul_right _ (by omega)
  have h9 : 50000000 + 40 * (LD + 1) ≤ LN := by decide
  omega
def coef (N : Nat) (bs : List Rat) (i : Nat) : Rat := C N i * It i (sq bs) 0
def polyN (N : Nat) (bs : List Rat) (m : Nat) : List Rat := (List.range' 0 m).map (coef N bs)
def rowN (N : Nat) (bs : List Rat) (j : Nat) : List Rat := (List.range' 0 (N + 1 - j)).map (It j (sq bs))
theorem row0 (h : bs.length = N + 1) : rowN N bs 0 = bs := by
  apply List.ext_getElem?
  intro i
  unfold rowN
  rw [List.getElem?_map]
  by_cases hi : i < N + 1
  · rw [List.getElem?_range' (by omega), sq_get (by omega)]
    simp [RR.It]
  · rw [List.getElem?_eq_none (by simp; omega), List.getElem?_eq_none (by omega)]
    rfl
theorem pairs_map (g : Nat → Rat) : ∀ (m o : Nat), pairsD (frs ((List.range' o (m + 1)).map g)) (frs ((List.range' (o + 1) m).map g)) = (List.range' o m).map fun i => .tuple [fr (g i), fr (g (i + 1))]
  | 0, o => by simp [pairsD, frs]
  | m + 1, o => by
    have ih := pairs_map g m (o + 1)
    rw [List.range'_succ, List.map_cons, List.range'_succ, List.map_cons]
    show PySem.PyData.tuple [fr (g o), fr (g (o + 1))] :: pairsD (frs (g (o + 1) :: (List.range' (o + 1 + 1) m).map g)) (frs ((List.range' (o + 1 + 1) m).map g)) = _
    rw [← List.map_cons (f := g), ← List.range'_succ, ih]
    rfl
theorem poly_snoc (N : Nat) (bs : List Rat) (m : Nat) : polyN N bs (m + 1) = polyN N bs m ++ [coef N bs m] := by
  unfold polyN
  rw [List.range'_1_concat]
  simp
def bLp : Sts := .cons (.append 3 (.call f__law_times (.cons (.idx (.bor 2) (.int 0)) (.cons (.tup (.cons (.idx (.bor 4) (.bor 5)) (.cons (.int 1) .nil))) .nil)))) (.cons (.asg 2 (.comp (.call f__law_minus (.cons (.var 7) (.cons (.var 6) .nil))) (.tp (.cons (.nm 6) (.cons (.nm 7) .nil))) (.zip (.var 2) (.slc (.bor 2) (.cons (.int 1) .nil) .nil)) .nil [6, 7])) .nil)
theorem choose_sz {N i : Nat} (hN : N ≤ 40) : Sz 50 ((choose N i : Nat) : Rat) := by
  have := sz_int (l := 50) (choose N i : Nat) (by
    rw [Int.natAbs_natCast]
    exact Nat.lt_trans (choose_lt hN) (Nat.pow_lt_pow_right (by decide) (by decide)))
  exact this
theorem lp_loop (hn : Fuel n) (h : Nu L l N bs) (s0 s1 : Option Vl) : ∀ (m j : Nat) (s5 : Option Vl), j + m = N + 1 → ∃ s2' s5', forE (call P prim n (k + 4)) n (.nm 5) bLp (rngD j m 1) [s0, s1, some (.own (frs (rowN N bs j))), some (.own (frs (polyN N bs j))), some (.own (il (rowL N))), s5, none, none] = .ret (.nx [s0, s1, s2', some (.own (frs (polyN N bs (N + 1)))), some (.own (il (rowL N))), s5', none, none])
  | 0, j, s5, hm => ⟨some (.own (frs (rowN N bs j))), s5, by
    rw [show j = N + 1 by omega]
    simp [rngD]⟩
  | m + 1, j, s5, hm => by
    have hN := h.N40
    obtain ⟨s2', s5', e⟩ := lp_loop hn h s0 s1 m (j + 1) (some (.d (.int j))) (by omega)
    refine ⟨s2', s5', ?_⟩
    obtain ⟨d, s⟩ := h.it j 0 (by omega)
    have er : rowN N bs j = It j (sq bs) 0 :: (List.range' 1 m).map (It j (sq bs)) := by
      unfold rowN
      rw [show N + 1 - j = m + 1 by omega, List.range'_succ]
      rfl
    have a1 : L2.atI (frs (rowN N bs j)) 0 = some (fr (It j (sq bs) 0)) := by
      rw [er]
      exact atI_nat _ 0 rfl
    have a2 := row_at (kk := N) (i := j) (by omega)
    have tm := ltimes_eq (prim := prim) (k := k + 2) hn s (choose_sz (N := N) (i := j) hN) (h.le (by omega)) (by decide)
    have ec : It j (sq bs) 0 * ((choose N j : Nat) : Rat) = coef N bs j := by
      unfold coef C
      exact Rat.mul_comm _ _
    rw [ec] at tm
    have tm2 : call P prim n (k + 4) f__law_times [.d (fr (It j (sq bs) 0)), .d (.tuple [.int (choose N j : Nat), .int 1])] = .ret (.d (fr (coef N bs j))) := tm
    have el : (frs (polyN N bs j)).length < 16777216 := by simp only [frs, polyN, List.length_map, List.length_range']; omega
    have et : (frs (rowN N bs j)).tail = frs ((List.range' 1 m).map (It j (sq bs))) := by rw [er]; rfl
    have ep : pairsD (frs (rowN N bs j)) (frs ((List.range' 1 m).map (It j (sq bs)))) = (List.range' 0 m).map fun i => .tuple [fr (It j (sq bs) i), fr (It j (sq bs) (i + 1))] := by
      have := pairs_map (It j (sq bs)) m 0
      unfold rowN
      rw [show N + 1 - j = m + 1 by omega]
      exact this
    have lp : m ≤ 16777216 := by omega
    rw [rng_cons, forE_c]
    simp -dsimp -implicitDefEqProofs [bLp, rdVar_eq, a1, a2, tm2, el, cut1, et, ep, lp]
    rw [compE_map (g := fun i => .tuple [fr (It j (sq bs) i), fr (It j (sq bs) (i + 1))]) (f := fun i => some (fr (It (j + 1) (sq bs) i))) (h := fun i hi => by
      have hi' : i < m := by
        have := (List.mem_range'_1.mp hi).2
        omega
      obtain ⟨d1, s1⟩ := h.it j (i + 1) (by omega)
      obtain ⟨d0, s0⟩ := h.it j i (by omega)
      have mn := lminus_eq (prim := prim) (k := k + 2) hn s1 s0 (h.le (by omega)) (h.le (by omega))
      have em : It j (sq bs) (i + 1) - It j (sq bs) i = It (j + 1) (sq bs) i := by rw [RR.It, It_Dl]; rfl
      rw [em] at mn
      simp -dsimp -implicitDefEqProofs [compStep, rdVar_eq, mn])]
    have e1 : (List.range' 0 m).filterMap (fun i => some (fr (It (j + 1) (sq bs) i))) = frs (rowN N bs (j + 1)) := by
      unfold rowN frs
      rw [show N + 1 - (j + 1) = m by omega, List.map_map, List.filterMap_eq_map']
      rfl
    have e2 : frs (polyN N bs j) ++ [fr (coef N bs j)] = frs (polyN N bs (j + 1)) := by rw [poly_snoc, frs_snoc]
    rw [e1, e2]
    simpa -dsimp -implicitDefEqProofs [bLp] using e
theorem law_polynomial_eq (hn : Fuel n) (h : Nu L l N bs) : call P prim n (k + 5) f__law_polynomial [.d (.tuple (frs bs))] = .ret (.d (.tuple (frs (cutQ (polyN N bs (N + 1)))))) := by
  obtain ⟨s2', s5', e⟩ := lp_loop (prim := prim) (k := k) hn h (some (.d (.tuple (frs bs)))) (some (.d (.int N))) (N + 1) 0 none (by omega)
  have hN := h.N40
  have hl := h.len
  rw [row0 hl] at e
  have er := rng_of ((N : Int) + 1) (by omega) (by omega)
  rw [show ((N : Int) + 1).toNat = N + 1 by omega] at er
  have ech := choose_eq (prim := prim) (n := n) (k := k + 3) N (by omega)
  have ecut := law_cut_eq (prim := prim) (n := n) (k := k + 3) hn (polyN N bs (N + 1)) (by simp [polyN]; omega)
  have e0 : frs (polyN N bs 0) = [] := rfl
  have el : ((frs bs).length : Int) - 1 = N := by simp only [frs, List.length_map, hl]; omega
  have el2 : (frs bs).length ≤ 16777216 := by simp only [frs, List.length_map, hl]; omega
  unfold bLp at e
  rw [e0, show ((0 : Nat) : Int) = 0 from rfl] at e
  rw [call_s (d := d__law_polynomial) (h := rfl), run_eq _ _ rfl]
  simp -dsimp -implicitDefEqProofs [d__law_polynomial, b__law_polynomial, rdVar_eq, el, el2, ech, er]
  rw [e]
  simp -dsimp -implicitDefEqProofs [rdVar_eq, ecut]
end
end K92
end

section
set_option linter.all false
set_option maxRecDepth 100000
open TP RR
namespace K92
variable {prim : Nat → List Vl → M Vl} {n k : Nat}
section
variable {L l N : Nat} {bs : List Rat}
def sgnI (m : Nat) : Int := if m % 2 = 0 then 1 else -1
theorem sgnI_eq (m : Nat) : ((sgnI m : Int) : Rat) = sgn m := by
  unfold sgnI sgn
  by_cases h : m % 2 = 0
  · rw [if_pos h, if_pos h]; rfl
  · rw [if_neg h, if_neg h]; rfl
def part (bs : List Rat) (i j : Nat) : Rat := ((sgnI (i - j) * (choose i j : Nat) : Int) : Rat) * sq bs j
def partsN (bs : List Rat) (i m : Nat) : List Rat := (List.range' 0 m).map (part bs i)
theorem sumL_map (g : Nat → Rat) : ∀ (m : Nat) (f : Rat), sumL f ((List.range' 0 m).map g) = f + sm m g
  | 0, f => by
    show f = f + 0
    grind
  | m + 1, f => by
    rw [List.range'_1_concat, List.map_append, sm, Nat.zero_add]
    unfold sumL
    rw [List.foldl_append]
    have := sumL_map g m f
    unfold sumL at this
    rw [this]
    show f + sm m g + g m = _
    grind
theorem total_part (i : Nat) : sumL 0 (partsN bs i (i + 1)) = RR.It i (sq bs) 0 := by
  unfold partsN
  rw [sumL_map, ← signed, RR.P, Rat.zero_add]
  refine sm_congr fun j _ => ?_
  unfold part C
  rw [Rat.intCast_mul, sgnI_eq]
  have : ((choose i j : Nat) : Int) = ((choose i j : Nat) : Int) := rfl
  show sgn (i - j) * ((choose i j : Nat) : Rat) * sq bs j = _
  grind
theorem part_row (h : Nu L l N bs) {i : Nat} (hi : i ≤ N) {j : Nat} (hj : j ≤ i) : Sz 50 ((sgnI (i - j) * (choose i j : Nat) : Int) : Rat) ∧ Dn L (sq bs j) ∧ Sz l (sq bs j) ∧ Dn L (part bs i j) ∧ Sz (50 + l) (part bs i j) := by
  have hN := h.N40
  have hl := h.len
  have s1 : Sz 50 ((sgnI (i - j) * (choose i j : Nat) : Int) : Rat) := sz_int _ (by
    rw [Int.natAbs_mul, Int.natAbs_natCast]
    have : (sgnI (i - j)).natAbs = 1 := by
      unfold sgnI
      split <;> rfl
    rw [this, Nat.one_mul]
    exact Nat.lt_trans (choose_lt (by omega)) (Nat.pow_lt_pow_right (by decide) (by decide)))
  obtain ⟨d2, s2⟩ := h.row (sq bs j) (List.mem_of_getElem? (sq_get (i := j) (by omega)))
  have d3 : Dn L (part bs i j) := by
    have := (Dn.int (sgnI (i - j) * (choose i j : Nat))).mul d2
    rwa [Nat.one_mul] at this
  exact ⟨s1, d2, s2, d3, s1.times s2 (dn_sz h.L0 h.lt d3)⟩
theorem parts_snoc (bs : List Rat) (i m : Nat) : partsN bs i (m + 1) = partsN bs i m ++ [part bs i m] := by
  unfold partsN
  rw [List.range'_1_concat]
  simp
def bRi : Sts := .cons (.asg 6 (.ife (.cmp .eq (.bin .mod (.bin .sub (.bor 3) (.bor 5)) (.int 2)) (.int 0)) (.int 1) (.neg (.int 1)))) (.cons (.append 4 (.call f_times (.cons (.tup (.cons (.bin .mul (.bor 6) (.bi .comb (.cons (.bor 3) (.cons (.bor 5) .nil)))) (.cons (.int 1) .nil))) (.cons (.idx (.bor 0) (.bor 5)) .nil)))) .nil)
theorem ri_loop (hn : Fuel n) (h : Nu L l N bs) {i : Nat} (hi : i ≤ N) (s1 s2 : Option Vl) : ∀ (m j : Nat) (s5 s6 : Option Vl), j + m = i + 1 → ∃ s5' s6', forE (call P prim n (k + 4)) n (.nm 5) bRi (rngD j m 1) [some (.d (.tuple (frs bs))), s1, s2, some (.d (.int i)), some (.own (frs (partsN bs i j))), s5, s6] = .ret (.nx [some (.d (.tuple (frs bs))), s1, s2, some (.d (.int i)), some (.own (frs (partsN bs i (i + 1)))), s5', s6'])
  | 0, j, s5, s6, hm => ⟨s5, s6, by
    rw [show j = i + 1 by omega]
    simp [rngD]⟩
  | m + 1, j, s5, s6, hm => by
    have hN := h.N40
    have hl := h.len
    have hj : j ≤ i := by omega
    have c1 := bi_comb i j (by omega) (by omega)
    have g1 : big1 1 (choose i j : Nat) := b1_lt (l := 1) (m := 41) (by decide) (by rw [Int.natAbs_natCast]; exact choose_lt (by omega)) (by decide)
    have g2 : big1 (-1) (choose i j : Nat) := b1_lt (l := 1) (m := 41) (by decide) (by rw [Int.natAbs_natCast]; exact choose_lt (by omega)) (by decide)
    obtain ⟨z1, d2, z2, d3, z3⟩ := part_row h hi hj
    have tm := times_eq (prim := prim) (k := k + 1) hn z1 z2 (by decide) (Nat.le_trans (Nat.le_add_right l (0 * (LD + 1))) (h.le (j := 0) (by omega)))
    have ep : (((sgnI (i - j) * (choose i j : Nat) : Int) : Rat) * sq bs j) = part bs i j := rfl
    rw [ep, fr_int] at tm
    have a1 : L2.atI (frs bs) (j : Int) = some (fr (sq bs j)) := by
      refine atI_nat _ _ ?_
      unfold frs
      rw [List.getElem?_map, sq_get (by omega)]
      rfl
    have el : (frs (partsN bs i j)).length < 16777216 := by simp only [frs, partsN, List.length_map, List.length_range']; omega
    obtain ⟨s5', s6', e⟩ := ri_loop hn h hi s1 s2 m (j + 1) (some (.d (.int j))) (some (.d (.int (sgnI (i - j))))) (by omega)
    refine ⟨s5', s6', ?_⟩
    have e2 : frs (partsN bs i j) ++ [fr (part bs i j)] = frs (partsN bs i (j + 1)) := by rw [parts_snoc, frs_snoc]
    rw [rng_cons, forE_c]
    by_cases hp : (i - j) % 2 = 0
    · have es : sgnI (i - j) = 1 := if_pos hp
      have hq : ((i : Int) - j) % 2 = 0 := by omega
      rw [es] at tm e
      rw [Int.one_mul] at tm
      simp -dsimp -implicitDefEqProofs [bRi, rdVar_eq, hq, c1, g1, g2, a1, tm, el, e2]
      simpa -dsimp -implicitDefEqProofs [bRi] using e
    · have es : sgnI (i - j) = -1 := if_neg hp
      have hq : ((i : Int) - j) % 2 = 1 := by omega
      rw [es] at tm e
      have e3 : (-1 : Int) * (choose i j : Nat) = -(choose i j : Nat) := by omega
      rw [e3] at tm
      simp -dsimp -implicitDefEqProofs [bRi, rdVar_eq, hq, c1, g1, g2, a1, tm, el, e2]
      simpa -dsimp -implicitDefEqProofs [bRi] using e
def bRo : Sts := .cons (.asg 4 (.lst .nil)) (.cons (.for_ (.nm 5) (.rng1 (.bin .add (.bor 3) (.int 1))) bRi) (.cons (.append 2 (.call f_times (.cons (.tup (.cons (.bi .comb (.cons (.bor 1) (.cons (.bor 3) .nil))) (.cons (.int 1) .nil))) (.cons (.call f_total (.cons (.var 4) .nil)) .nil)))) .nil))
theorem ro_loop (hn : Fuel n) (h : Nu L l N bs) : ∀ (m i : Nat) (s3 s4 s5 s6 : Option Vl), i + m = N + 1 → ∃ s3' s4' s5' s6', forE (call P prim n (k + 4)) n (.nm 3) bRo (rngD i m 1) [some (.d (.tuple (frs bs))), some (.d (.int N)), some (.own (frs (polyN N bs i))), s3, s4, s5, s6] = .ret (.nx [some (.d (.tuple (frs bs))), some (.d (.int N)), some (.own (frs (polyN N bs (N + 1)))), s3', s4', s5', s6'])
  | 0, i, s3, s4, s5, s6, hm => ⟨s3, s4, s5, s6, by
    rw [show i = N + 1 by omega]
    simp [rngD]⟩
  | m + 1, i, s3, s4, s5, s6, hm => by
    have hN := h.N40
    have hl := h.len
    have hl1 := h.l1
    have hi : i ≤ N := by omega
    obtain ⟨t5, t6, e1⟩ := ri_loop (prim := prim) (k := k) hn h hi (some (.d (.int N))) (some (.own (frs (polyN N bs i)))) (i + 1) 0 s5 s6 (by omega)
    have tot := total_eq (prim := prim) (k := k) hn h.L0 h.lt (partsN bs i (i + 1)) (l := 50 + l) (fun q hq => by
      obtain ⟨j, hj, rfl⟩ := List.mem_map.mp hq
      have := (List.mem_range'_1.mp hj).2
      obtain ⟨_, _, _, d3, z3⟩ := part_row h hi (j := j) (by omega)
      exact ⟨d3, z3⟩) (by
      have e1 : (partsN bs i (i + 1)).length = i + 1 := by simp [partsN]
      rw [e1]
      have h1 : (i + 1) * (LD + 1) ≤ 41 * (LD + 1) := Nat.mul_le_mul_right _ (by omega)
      have h9 : 50 + 50000000 + 41 * (LD + 1) ≤ LN := by decide
      omega)
    rw [total_part] at tot
    obtain ⟨d, s⟩ := h.it i 0 (by omega)
    have tm := times_eq (prim := prim) (k := k + 1) hn (choose_sz (N := N) (i := i) hN) s (by decide) (h.le hi)
    have ec : ((choose N i : Nat) : Rat) * RR.It i (sq bs) 0 = coef N bs i := rfl
    rw [ec] at tm
    have tm2 : call P prim n (k + 4) f_times [.d (.tuple [.int (choose N i : Nat), .int 1]), .d (fr (RR.It i (sq bs) 0))] = .ret (.d (fr (coef N bs i))) := tm
    have c1 := bi_comb N i (by omega) (by omega)
    have er := rng_of ((i : Int) + 1) (by omega) (by omega)
    rw [show ((i : Int) + 1).toNat = i + 1 by omega] at er
    have el : (frs (polyN N bs i)).length < 16777216 := by simp only [frs, polyN, List.length_map, List.length_range']; omega
    obtain ⟨s3', s4', s5', s6', e⟩ := ro_loop hn h m (i + 1) (some (.d (.int i))) (some (.d (.list (frs (partsN bs i (i + 1)))))) t5 t6 (by omega)
    refine ⟨s3', s4', s5', s6', ?_⟩
    have e2 : frs (polyN N bs i) ++ [fr (coef N bs i)] = frs (polyN N bs (i + 1)) := by rw [poly_snoc, frs_snoc]
    have e0 : frs (partsN bs i 0) = [] := rfl
    rw [e0, show ((0 : Nat) : Int) = 0 from rfl] at e1
    rw [rng_cons, forE_c]
    simp -dsimp -implicitDefEqProofs [bRo, rdVar_eq, er]
    rw [e1]
    simp -dsimp -implicitDefEqProofs [rdVar_eq, tot, c1, tm2, el, e2]
    simpa -dsimp -implicitDefEqProofs [bRo] using e
theorem raw_polynomial_eq (hn : Fuel n) (h : Nu L l N bs) : call P prim n (k + 5) f_raw_polynomial [.d (.tuple (frs bs))] = .ret (.d (.tuple (frs (cutQ (polyN N bs (N + 1)))))) := by
  obtain ⟨s3', s4', s5', s6', e⟩ := ro_loop (prim := prim) (k := k) hn h (N + 1) 0 none none none none (by omega)
  have hN := h.N40
  have hl := h.len
  have er := rng_of ((N : Int) + 1) (by omega) (by omega)
  rw [show ((N : Int) + 1).toNat = N + 1 by omega] at er
  have ecut := without_eq (prim := prim) (n := n) (k := k + 3) hn (polyN N bs (N + 1)) (by simp [polyN]; omega)
  have e0 : frs (polyN N bs 0) = [] := rfl
  have el : ((frs bs).length : Int) - 1 = N := by simp only [frs, List.length_map, hl]; omega
  have el2 : (frs bs).length ≤ 16777216 := by simp only [frs, List.length_map, hl]; omega
  unfold bRo bRi at e
  rw [e0, show ((0 : Nat) : Int) = 0 from rfl] at e
  rw [call_s (d := d_raw_polynomial) (h := rfl), run_eq _ _ rfl]
  simp -dsimp -implicitDefEqProofs [d_raw_polynomial, b_raw_polynomial, rdVar_eq, el, el2, er]
  rw [e]
  simp -dsimp -implicitDefEqProofs [rdVar_eq, ecut]
end
end K92
end

section
set_option linter.all false
set_option maxRecDepth 100000
open TP RR
namespace K92
variable {prim : Nat → List Vl → M Vl} {n k : Nat}
section
variable {L l N : Nat} {bs : List Rat}
/-! ### values -/
theorem val_cons (a : Rat) (as : List Rat) (x : Rat) : val (a :: as) x = val as x * x + a := by
  unfold val hor
  rw [List.reverse_cons, List.foldl_append]
  rfl
theorem val_snoc (b x : Rat) : ∀ as : List Rat, val (as ++ [b]) x = val as x + b * pw x as.length
  | [] => by
    show (0 : Rat) * x + b = 0 + b * 1
    grind
  | a :: as => by
    rw [List.cons_append, val_cons, val_snoc b x as, val_cons, List.length_cons, pw]
    grind
theorem val_cut (x : Rat) : ∀ as : List Rat, val (cutQ as) x = val as x
  | [] => rfl
  | a :: as => by
    have ih := val_cut x as
    rw [val_cons, ← ih]
    show val (match cutQ as with | [] => if a = 0 then [] else [a] | r => a :: r) x = _
    cases e : cutQ as with
    | nil =>
      dsimp only
      by_cases h : a = 0
      · rw [if_pos h, h]
        show (0 : Rat) = 0 * x + 0
        grind
      · rw [if_neg h, val_cons]
    | cons b r =>
      dsimp only
      rw [val_cons]
theorem val_poly (x : Rat) : ∀ m, val (polyN N bs m) x = sm m fun i => coef N bs i * pw x i
  | 0 => rfl
  | m + 1 => by
    rw [poly_snoc, val_snoc, val_poly x m, sm]
    have : (polyN N bs m).length = m := by simp [polyN]
    rw [this]
def term (N : Nat) (bs : List Rat) (p : Rat) (i : Nat) : Rat := sq bs i * C N i * (pw p i * pw (1 - p) (N - i))
theorem chance_val (p : Rat) : sm (N + 1) (term N bs p) = val (cutQ (polyN N bs (N + 1))) p := by
  rw [val_cut, val_poly]
  have h := rows N (sq bs) p (1 - p) (by grind)
  unfold RR.P at h
  have e1 : sm (N + 1) (term N bs p) = sm (N + 1) fun i => C N i * (sq bs i * (pw p i * pw (1 - p) (N - i))) := sm_congr fun i _ => by
    unfold term
    grind
  have e2 : (sm (N + 1) fun i => coef N bs i * pw p i) = sm (N + 1) fun i => C N i * (RR.It i (sq bs) 0 * pw p i) := sm_congr fun i _ => by
    unfold coef
    grind
  rw [e1, e2]
  exact h
/-! ### back again -/
theorem cut_mem : ∀ {as : List Rat} {a : Rat}, a ∈ cutQ as → a ∈ as
  | [], a, h => h
  | b :: as, a, h => by
    have h' : a ∈ (match cutQ as with | [] => if b = 0 then [] else [b] | r => b :: r) := h
    cases e : cutQ as with
    | nil =>
      rw [e] at h'
      dsimp only at h'
      by_cases h0 : b = 0
      · rw [if_pos h0] at h'
        exact absurd h' (by simp)
      · rw [if_neg h0] at h'
        simp at h'
        simp [h']
    | cons c r =>
      rw [e] at h'
      dsimp only at h'
      rcases List.mem_cons.mp h' with h1 | h1
      · simp [h1]
      · rw [← e] at h1
        exact List.mem_cons_of_mem _ (cut_mem h1)
theorem cut_len : ∀ as : List Rat, (cutQ as).length ≤ as.length
  | [] => Nat.le_refl _
  | a :: as => by
    have ih := cut_len as
    show (match cutQ as with | [] => if a = 0 then [] else [a] | r => a :: r).length ≤ _
    cases e : cutQ as with
    | nil =>
      dsimp only
      by_cases h : a = 0
      · rw [if_pos h]; simp
      · rw [if_neg h]; simp
    | cons b r =>
      rw [e] at ih
      simp only [List.length_cons] at ih ⊢
      omega
theorem cut_get : ∀ (as : List Rat) (i : Nat), (cutQ as).getD i 0 = as.getD i 0
  | [], i => rfl
  | a :: as, i => by
    show (match cutQ as with | [] => if a = 0 then [] else [a] | r => a :: r).getD i 0 = _
    cases e : cutQ as with
    | nil =>
      have ih := fun i => cut_get as i
      rw [e] at ih
      dsimp only
      cases i with
      | zero =>
        by_cases h : a = 0
        · rw [if_pos h, h]; rfl
        · rw [if_neg h]; rfl
      | succ i =>
        have := ih i
        by_cases h : a = 0
        · rw [if_pos h]
          simpa using this
        · rw [if_neg h]
          simpa using this
    | cons b r =>
      have ih := fun i => cut_get as i
      rw [e] at ih
      cases i with
      | zero => rfl
      | succ i => simpa using ih i
theorem cut_zeros (as : List Rat) : ∀ m, cutQ (as ++ List.replicate m 0) = cutQ as
  | 0 => by simp
  | m + 1 => by
    rw [List.replicate_succ', ← List.append_assoc, cutQ_snoc0, cut_zeros as m]
theorem cut_cut : ∀ as : List Rat, cutQ (cutQ as) = cutQ as
  | [] => rfl
  | a :: as => by
    have ih := cut_cut as
    show cutQ (match cutQ as with | [] => if a = 0 then [] else [a] | r => a :: r) = (match cutQ as with | [] => if a = 0 then [] else [a] | r => a :: r)
    cases e : cutQ as with
    | nil =>
      dsimp only
      by_cases h : a = 0
      · rw [if_pos h]; rfl
      · rw [if_neg h]
        simp [cutQ, h]
    | cons b r =>
      rw [e] at ih
      dsimp only
      show (match cutQ (b :: r) with | [] => if a = 0 then [] else [a] | r => a :: r) = a :: b :: r
      rw [ih]
theorem It_congr : ∀ (i : Nat) {f g : Sq} {k : Nat}, (∀ j, j ≤ i + k → f j = g j) → RR.It i f k = RR.It i g k
  | 0, f, g, k, h => h k (by omega)
  | i + 1, f, g, k, h => by
    rw [RR.It, RR.It]
    refine It_congr i fun j hj => ?_
    simp only [Dl]
    rw [h (j + 1) (by omega), h j (by omega)]
theorem nums_get (N : Nat) (as : List Rat) {i : Nat} (h : i ≤ N) : sq (nums N as) i = RR.P i (cf as N) := by
  unfold sq nums
  rw [List.getD_eq_getElem?_getD, List.getElem?_map, List.getElem?_range' (by omega)]
  simp [num_P]
theorem C_ne {N i : Nat} (h : i ≤ N) : C N i ≠ 0 := by
  unfold C
  have := choose_pos N i h
  intro e
  have : choose N i = 0 := by exact_mod_cast e
  omega
theorem coef_nums (N : Nat) (as : List Rat) {i : Nat} (h : i ≤ N) : coef N (nums N as) i = as.getD i 0 := by
  unfold coef
  rw [It_congr i (g := fun j => RR.P j (cf as N)) fun j hj => nums_get N as (by omega), diff_P0]
  unfold cf
  have := C_ne h
  grind
/-- the numbers of a polynomial lead back to it -/
theorem poly_nums (N : Nat) (as : List Rat) (h : as.length ≤ N + 1) : cutQ (polyN N (nums N as) (N + 1)) = cutQ as := by
  have e : polyN N (nums N as) (N + 1) = as ++ List.replicate (N + 1 - as.length) 0 := by
    apply List.ext_getElem?
    intro i
    unfold polyN
    by_cases hi : i < N + 1
    · rw [List.getElem?_map, List.getElem?_range' (by omega)]
      simp only [Option.map_some, Nat.zero_add, Nat.one_mul]
      rw [coef_nums N as (by omega)]
      by_cases h2 : i < as.length
      · rw [List.getElem?_append_left h2]
        simp [List.getD_eq_getElem?_getD, h2]
      · rw [List.getElem?_append_right (by omega), List.getElem?_replicate, if_pos (by omega), List.getD_eq_getElem?_getD, List.getElem?_eq_none (by omega)]
        rfl
    · rw [List.getElem?_eq_none (by simp; omega), List.getElem?_eq_none (by simp; omega)]
  rw [e, cut_zeros]
/-- the polynomial of numbers leads back to them -/
theorem nums_poly (h : bs.length = N + 1) : nums N (cutQ (polyN N bs (N + 1))) = bs := by
  apply List.ext_getElem?
  intro i
  by_cases hi : i < N + 1
  · rw [sq_get (bs := bs) (by omega), sq_get (bs := nums N _) (by simp [nums]; omega), nums_get N _ (by omega)]
    congr 1
    rw [← newton i (sq bs)]
    refine P_congr fun j hj => ?_
    unfold cf
    rw [cut_get]
    have e : (polyN N bs (N + 1)).getD j 0 = coef N bs j := by
      unfold polyN
      rw [List.getD_eq_getElem?_getD, List.getElem?_map, List.getElem?_range' (by omega)]
      simp
    rw [e]
    unfold coef
    have := C_ne (N := N) (i := j) (by omega)
    grind
  · rw [List.getElem?_eq_none (by simp [nums]; omega), List.getElem?_eq_none (by omega)]
end
end K92
end

section
set_option linter.all false
set_option maxRecDepth 100000
open TP RR
namespace K92
variable {prim : Nat → List Vl → M Vl} {n k : Nat}
section
variable {L l N c : Nat} {bs : List Rat} {p : Rat}
/-- a bias -/
structure Bi (c : Nat) (p : Rat) : Prop where
  c0 : 0 < c
  c1 : c ≤ 1000
  dp : Dn c p
  sp : Sz 50 p
  dq : Dn c (1 - p)
  sq : Sz 50 (1 - p)
theorem pow_lt {c : Nat} (hc : c ≤ 1000) {j : Nat} (hj : j ≤ 41) : c ^ j < 2 ^ 1000 := by
  have h1 : c ^ j ≤ (2 ^ 10) ^ j := Nat.pow_le_pow_left (by omega) j
  rw [← Nat.pow_mul] at h1
  exact Nat.lt_of_le_of_lt h1 (Nat.pow_lt_pow_right (by decide) (by omega))
theorem pw_dn {q : Rat} (hc : 0 < c) (hc1 : c ≤ 1000) (hd : Dn c q) (hs : Sz 50 q) : ∀ j, j ≤ 41 → Dn (c ^ j) (pw q j) ∧ Sz (50 * j + 1) (pw q j)
  | 0, _ => ⟨Dn.int 1, sz_int 1 (l := 1) (by decide)⟩
  | j + 1, h => by
    obtain ⟨d, s⟩ := pw_dn hc hc1 hd hs j (by omega)
    have d2 : Dn (c ^ (j + 1)) (pw q (j + 1)) := by
      rw [Nat.pow_succ]
      exact d.mul hd
    have hlt : c ^ (j + 1) < 2 ^ LD := Nat.lt_trans (pow_lt hc1 h) (Nat.pow_lt_pow_right (by decide) (by decide))
    exact ⟨d2, (s.times hs (dn_sz (Nat.pow_pos hc) hlt d2)).mono (by omega)⟩
def pws (q : Rat) (m : Nat) : List Rat := (List.range' 0 m).map (pw q)
theorem pws_snoc (q : Rat) (m : Nat) : pws q (m + 1) = pws q m ++ [pw q m] := by
  unfold pws
  rw [List.range'_1_concat]
  simp
theorem pws_at {q : Rat} {m i : Nat} (h : i < m) : L2.atI (frs (pws q m)) (i : Int) = some (fr (pw q i)) := by
  refine atI_nat _ _ ?_
  unfold frs pws
  rw [List.map_map, List.getElem?_map, List.getElem?_range' (by omega)]
  simp
def bPw : Sts := .cons (.append 6 (.call f__law_times (.cons (.idx (.bor 6) (.neg (.int 1))) (.cons (.var 1) .nil)))) (.cons (.append 7 (.call f__law_times (.cons (.idx (.bor 7) (.neg (.int 1))) (.cons (.var 5) .nil)))) .nil)
theorem pw_loop (hn : Fuel n) (h : Bi c p) (s0 s2 s3 s4 s9 : Option Vl) : ∀ (m j : Nat) (s8 : Option Vl), j + m ≤ 40 → ∃ s8', forE (call P prim n (k + 4)) n (.nm 8) bPw (rngD j m 1) [s0, some (.d (fr p)), s2, s3, s4, some (.d (fr (1 - p))), some (.own (frs (pws p (j + 1)))), some (.own (frs (pws (1 - p) (j + 1)))), s8, s9] = .ret (.nx [s0, some (.d (fr p)), s2, s3, s4, some (.d (fr (1 - p))), some (.own (frs (pws p (j + m + 1)))), some (.own (frs (pws (1 - p) (j + m + 1)))), s8', s9])
  | 0, j, s8, hm => ⟨s8, by simp [rngD]⟩
  | m + 1, j, s8, hm => by
    obtain ⟨d1, z1⟩ := pw_dn h.c0 h.c1 h.dp h.sp j (by omega)
    obtain ⟨d2, z2⟩ := pw_dn h.c0 h.c1 h.dq h.sq j (by omega)
    have hLN : 50 * 40 + 1 ≤ LN := by decide
    have t1 := ltimes_eq (prim := prim) (k := k + 2) hn z1 h.sp (by omega) (by decide)
    have t2 := ltimes_eq (prim := prim) (k := k + 2) hn z2 h.sq (by omega) (by decide)
    have a1 : L2.atI (frs (pws p (j + 1))) (-1) = some (fr (pw p j)) := by rw [pws_snoc, frs_snoc]; exact atI_last _ _
    have a2 : L2.atI (frs (pws (1 - p) (j + 1))) (-1) = some (fr (pw (1 - p) j)) := by rw [pws_snoc, frs_snoc]; exact atI_last _ _
    have l1 : (frs (pws p (j + 1))).length < 16777216 := by simp only [frs, pws, List.length_map, List.length_range']; omega
    have l2 : (frs (pws (1 - p) (j + 1))).length < 16777216 := by simp only [frs, pws, List.length_map, List.length_range']; omega
    have e1 : frs (pws p (j + 1)) ++ [fr (pw p j * p)] = frs (pws p (j + 1 + 1)) := by
      rw [pws_snoc p (j + 1), frs_snoc]
      rfl
    have e2 : frs (pws (1 - p) (j + 1)) ++ [fr (pw (1 - p) j * (1 - p))] = frs (pws (1 - p) (j + 1 + 1)) := by
      rw [pws_snoc (1 - p) (j + 1), frs_snoc]
      rfl
    obtain ⟨s8', e⟩ := pw_loop hn h s0 s2 s3 s4 s9 m (j + 1) (some (.d (.int j))) (by omega)
    refine ⟨s8', ?_⟩
    rw [show j + 1 + m + 1 = j + (m + 1) + 1 by omega] at e
    rw [rng_cons, forE_c]
    simp -dsimp -implicitDefEqProofs [bPw, rdVar_eq, a1, a2, t1, t2, l1, l2, e1, e2]
    simpa -dsimp -implicitDefEqProofs [bPw] using e
/-- one share -/
theorem term_dn (hN : Nu L l N bs) (h : Bi c p) (hL : L * c ^ N < 2 ^ LB) {i : Nat} (hi : i ≤ N) : Dn L (sq bs i) ∧ Sz l (sq bs i) ∧ Sz (l + 50) (sq bs i * C N i) ∧ Sz (50 * i + 1) (pw p i) ∧ Sz (50 * (N - i) + 1) (pw (1 - p) (N - i)) ∧ Sz 2100 (pw p i * pw (1 - p) (N - i)) ∧ Dn (L * c ^ N) (term N bs p i) ∧ Sz (l + 2200) (term N bs p i) := by
  have h40 := hN.N40
  have hl := hN.len
  obtain ⟨d0, z0⟩ := hN.row (sq bs i) (List.mem_of_getElem? (sq_get (i := i) (by omega)))
  obtain ⟨d1, z1⟩ := pw_dn h.c0 h.c1 h.dp h.sp i (by omega)
  obtain ⟨d2, z2⟩ := pw_dn h.c0 h.c1 h.dq h.sq (N - i) (by omega)
  have dC : Dn L (sq bs i * C N i) := by
    have := d0.mul (Dn.int (choose N i : Nat))
    rw [Nat.mul_one] at this
    exact this
  have zC : Sz (l + 50) (sq bs i * C N i) := z0.times (choose_sz h40) (dn_sz hN.L0 hN.lt dC)
  have dP : Dn (c ^ N) (pw p i * pw (1 - p) (N - i)) := by
    have := d1.mul d2
    rwa [← Nat.pow_add, show i + (N - i) = N by omega] at this
  have hlt : c ^ N < 2 ^ LD := Nat.lt_trans (pow_lt h.c1 (by omega)) (Nat.pow_lt_pow_right (by decide) (by decide))
  have zP : Sz 2100 (pw p i * pw (1 - p) (N - i)) := (z1.times z2 (dn_sz (Nat.pow_pos h.c0) hlt dP)).mono (by omega)
  have dT : Dn (L * c ^ N) (term N bs p i) := dC.mul dP
  have hL2 : L * c ^ N < 2 ^ LD := Nat.lt_trans hL (Nat.pow_lt_pow_right (by decide) (by decide))
  exact ⟨d0, z0, zC, z1, z2, zP, dT, (zC.times zP (dn_sz (Nat.mul_pos hN.L0 (Nat.pow_pos h.c0)) hL2 dT)).mono (by omega)⟩
def bCh : Sts := .cons (.asg 3 (.call f__law_plus (.cons (.var 3) (.cons (.call f__law_times (.cons (.call f__law_times (.cons (.var 9) (.cons (.tup (.cons (.idx (.bor 4) (.bor 8)) (.cons (.int 1) .nil))) .nil))) (.cons (.call f__law_times (.cons (.idx (.bor 6) (.bor 8)) (.cons (.idx (.bor 7) (.bin .sub (.bor 2) (.bor 8))) .nil))) .nil))) .nil)))) .nil
theorem sm_dn {L' : Nat} {g : Nat → Rat} : ∀ m, (∀ i, i < m → Dn L' (g i)) → Dn L' (sm m g)
  | 0, _ => zero_dn _
  | m + 1, h => (sm_dn m fun i hi => h i (by omega)).add (h m (by omega))
theorem sm_sz {L' l' : Nat} {g : Nat → Rat} (h0 : 0 < L') (h1 : L' < 2 ^ LD) : ∀ m, (∀ i, i < m → Dn L' (g i) ∧ Sz l' (g i)) → Sz (l' + m * (LD + 1)) (sm m g)
  | 0, _ => zero_sz _
  | m + 1, h => by
    have e0 : (m + 1) * (LD + 1) = m * (LD + 1) + (LD + 1) := Nat.succ_mul _ _
    have d := sm_dn (m + 1) fun i hi => (h i hi).1
    exact ((sm_sz h0 h1 m fun i hi => h i (by omega)).plus (k := l' + m * (LD + 1)) (h m (by omega)).2 (Nat.le_refl _) (by omega) (dn_sz h0 h1 d)).mono (by omega)
theorem ch_loop (hn : Fuel n) (hN : Nu L l N bs) (h : Bi c p) (hL : L * c ^ N < 2 ^ LB) (s0 s1 s5 : Option Vl) : ∀ (m j : Nat) (s8 s9 : Option Vl), j + m = N + 1 → ∃ s8' s9', forE (call P prim n (k + 4)) n (.tp (.cons (.nm 8) (.cons (.nm 9) .nil))) bCh ((List.range' j m).map fun i => .tuple [.int ((i : Nat) : Int), fr (sq bs i)]) [s0, s1, some (.d (.int N)), some (.d (fr (sm j (term N bs p)))), some (.own (il (rowL N))), s5, some (.own (frs (pws p (N + 1)))), some (.own (frs (pws (1 - p) (N + 1)))), s8, s9] = .ret (.nx [s0, s1, some (.d (.int N)), some (.d (fr (sm (N + 1) (term N bs p)))), some (.own (il (rowL N))), s5, some (.own (frs (pws p (N + 1)))), some (.own (frs (pws (1 - p) (N + 1)))), s8', s9'])
  | 0, j, s8, s9, hm => ⟨s8, s9, by
    rw [show j = N + 1 by omega]
    simp⟩
  | m + 1, j, s8, s9, hm => by
    have h40 := hN.N40
    have hj : j ≤ N := by omega
    obtain ⟨d0, z0, zC, z1, z2, zP, dT, zT⟩ := term_dn hN h hL hj
    have hl1 := hN.l1
    have big : 50000000 + 10000 + 41 * (LD + 1) ≤ LN := by decide
    have hL2 : L * c ^ N < 2 ^ LD := Nat.lt_trans hL (Nat.pow_lt_pow_right (by decide) (by decide))
    have zS := sm_sz (g := term N bs p) (Nat.mul_pos hN.L0 (Nat.pow_pos h.c0)) hL2 j fun i hi => by
      obtain ⟨_, _, _, _, _, _, a, b⟩ := term_dn hN h hL (i := i) (by omega)
      exact ⟨a, b⟩
    have hjj : j * (LD + 1) ≤ 41 * (LD + 1) := Nat.mul_le_mul_right _ (by omega)
    have t1 := ltimes_eq (prim := prim) (k := k + 2) hn z0 (choose_sz (N := N) (i := j) h40) (by omega) (by omega)
    have t1' : call P prim n (k + 4) f__law_times [.d (fr (sq bs j)), .d (.tuple [.int (choose N j : Nat), .int 1])] = .ret (.d (fr (sq bs j * C N j))) := t1
    have t2 := ltimes_eq (prim := prim) (k := k + 2) hn z1 z2 (by omega) (by omega)
    have t3 := ltimes_eq (prim := prim) (k := k + 2) hn zC zP (by omega) (by omega)
    have t3' : call P prim n (k + 4) f__law_times [.d (fr (sq bs j * C N j)), .d (fr (pw p j * pw (1 - p) (N - j)))] = .ret (.d (fr (term N bs p j))) := t3
    have t4 := lplus_eq (prim := prim) (k := k + 2) hn zS zT (by omega) (by omega)
    have t4' : call P prim n (k + 4) f__law_plus [.d (fr (sm j (term N bs p))), .d (fr (term N bs p j))] = .ret (.d (fr (sm (j + 1) (term N bs p)))) := t4
    have a1 := row_at (kk := N) (i := j) hj
    have a2 := pws_at (q := p) (m := N + 1) (i := j) (by omega)
    have a3 := pws_at (q := 1 - p) (m := N + 1) (i := N - j) (by omega)
    rw [show ((N - j : Nat) : Int) = (N : Int) - j by omega] at a3
    obtain ⟨s8', s9', e⟩ := ch_loop hn hN h hL s0 s1 s5 m (j + 1) (some (.d (.int j))) (some (.d (fr (sq bs j)))) (by omega)
    refine ⟨s8', s9', ?_⟩
    rw [List.range'_succ, List.map_cons, forE_c]
    simp -dsimp -implicitDefEqProofs [bCh, rdVar_eq, a1, a2, a3, t1', t2, t3', t4']
    simpa -dsimp -implicitDefEqProofs [bCh] using e
theorem enum_nu (hN : Nu L l N bs) : enumD (frs bs) = (List.range' 0 (N + 1)).map fun i => .tuple [.int ((i : Nat) : Int), fr (sq bs i)] := by
  rw [enum_fr]
  apply List.ext_getElem?
  intro i
  have hl := hN.len
  by_cases hi : i < N + 1
  · rw [List.getElem?_map, List.getElem?_map, List.getElem?_range' (by omega), List.getElem?_zipIdx, sq_get (by omega)]
    simp
  · rw [List.getElem?_eq_none (by simp; omega), List.getElem?_eq_none (by simp; omega)]
theorem law_chance_eq (hn : Fuel n) (hN : Nu L l N bs) (h : Bi c p) (hL : L * c ^ N < 2 ^ LB) : call P prim n (k + 5) f__law_chance [.d (.tuple (frs bs)), .d (fr p)] = .ret (.d (fr (val (cutQ (polyN N bs (N + 1))) p))) := by
  have h40 := hN.N40
  have hl := hN.len
  have er := rng_of (N : Int) (by omega) (by omega)
  rw [Int.toNat_natCast] at er
  have ech := choose_eq (prim := prim) (n := n) (k := k + 3) N (by omega)
  have mn := lminus_eq (prim := prim) (k := k + 2) hn (sz_int 1 (l := 1) (by decide)) h.sp (by decide) (by decide)
  have mn' : call P prim n (k + 4) f__law_minus [.d (.tuple [.int 1, .int 1]), .d (fr p)] = .ret (.d (fr (1 - p))) := mn
  obtain ⟨s8, e1⟩ := pw_loop (prim := prim) (k := k) hn h (some (.d (.tuple (frs bs)))) (some (.d (.int N))) (some (.d (fr 0))) (some (.own (il (rowL N)))) none N 0 none (by omega)
  obtain ⟨t8, t9, e2⟩ := ch_loop (prim := prim) (k := k) hn hN h hL (some (.d (.tuple (frs bs)))) (some (.d (fr p))) (some (.d (fr (1 - p)))) (N + 1) 0 s8 none (by omega)
  have el : ((frs bs).length : Int) - 1 = N := by simp only [frs, List.length_map, hl]; omega
  have el2 : bs.length ≤ 16777216 := by omega
  have e0 : frs (pws p (0 + 1)) = [.tuple [.int 1, .int 1]] := rfl
  have e3 : frs (pws (1 - p) (0 + 1)) = [.tuple [.int 1, .int 1]] := rfl
  have lz : ((List.range' 0 (N + 1)).map fun i => PySem.PyData.tuple [.int ((i : Nat) : Int), fr (sq bs i)]).length ≤ 16777216 := by
    rw [List.length_map, List.length_range']
    omega
  unfold bPw at e1
  unfold bCh at e2
  rw [e0, e3, fr_zero, Nat.zero_add, show ((0 : Nat) : Int) = 0 from rfl] at e1
  rw [show sm 0 (term N bs p) = 0 from rfl, fr_zero, chance_val] at e2
  rw [call_s (d := d__law_chance) (h := rfl), run_eq _ _ rfl]
  simp -dsimp -implicitDefEqProofs [d__law_chance, b__law_chance, rdVar_eq, el, ech, mn', er]
  rw [e1]
  simp -dsimp -implicitDefEqProofs [rdVar_eq, enum_nu hN, lz]
  rw [e2]
  simp -dsimp -implicitDefEqProofs [rdVar_eq]
end
end K92
end

section
set_option linter.all false
set_option maxRecDepth 100000
open TP RR
namespace K92
variable {prim : Nat → List Vl → M Vl} {n k : Nat}
/-! ### sameness -/
inductive Tt where
  | i (z : Int)
  | f (q : Rat)
  | s (as : List Rat)
  | f2 (q : Rat)
  | s2 (as : List Rat)
def Tt.dat : Tt → D
  | .i z => .int z
  | .f q => fr q
  | .s as => .tuple (frs as)
  | .f2 q => .list [fr q, fr q]
  | .s2 as => .list [.tuple (frs as), .tuple (frs as)]
def Tt.kids : Tt → List Tt
  | .i _ => []
  | .f q => [.i q.num, .i q.den]
  | .s as => as.map .f
  | .f2 q => [.f q, .f q]
  | .s2 as => [.s as, .s as]
def Tt.cost : Tt → Nat
  | .i _ => 1
  | .f _ => 3
  | .s as => 1 + 3 * as.length
  | .f2 _ => 7
  | .s2 as => 3 + 6 * as.length
def cst (ts : List Tt) : Nat := (ts.map Tt.cost).sum
theorem cst_app (xs ys : List Tt) : cst (xs ++ ys) = cst xs + cst ys := by simp [cst]
theorem cst_f (as : List Rat) : cst (as.map .f) = 3 * as.length := by
  induction as with
  | nil => rfl
  | cons a as ih =>
    show 3 + cst (as.map .f) = _
    rw [ih, List.length_cons]
    omega
theorem Tt.cost_eq (t : Tt) : t.cost = 1 + cst t.kids := by
  cases t with
  | i z => rfl
  | f q => rfl
  | s as => rw [Tt.cost, Tt.kids, cst_f]
  | f2 q => rfl
  | s2 as =>
    show 3 + 6 * as.length = 1 + ((1 + 3 * as.length) + ((1 + 3 * as.length) + 0))
    omega
theorem cst_len (ts : List Tt) : ts.length ≤ cst ts := by
  induction ts with
  | nil => exact Nat.le_refl _
  | cons t ts ih =>
    have := t.cost_eq
    show ts.length + 1 ≤ t.cost + cst ts
    omega
theorem Tt.shape (t : Tt) : t.dat.canLay0 = true ∧ t.dat.depth ≤ 10 := by
  cases t with
  | i z => exact ⟨rfl, by simp [Tt.dat, PySem.PyData.depth]⟩
  | f q =>
    obtain ⟨h1, h2⟩ := frs_shape [q]
    simp [frs, PySem.PyData.canLayAll0, PySem.PyData.depthAll] at h1 h2
    exact ⟨h1, by show (fr q).depth ≤ 10; omega⟩
  | s as =>
    obtain ⟨h1, h2⟩ := frs_shape as
    refine ⟨by simpa only [Tt.dat, PySem.PyData.canLay0] using h1, ?_⟩
    simp only [Tt.dat, PySem.PyData.depth]
    omega
  | f2 q =>
    obtain ⟨h1, h2⟩ := frs_shape [q, q]
    have h1' : PySem.PyData.canLayAll0 [fr q, fr q] = true := h1
    refine ⟨by simpa only [Tt.dat, PySem.PyData.canLay0] using h1', ?_⟩
    show (PySem.PyData.list (frs [q, q])).depth ≤ 10
    simp only [PySem.PyData.depth]
    omega
  | s2 as =>
    obtain ⟨h1, h2⟩ := frs_shape as
    refine ⟨?_, ?_⟩
    · simp only [Tt.dat, PySem.PyData.canLay0, PySem.PyData.canLayAll0, h1, Bool.and_self]
    · simp only [Tt.dat, PySem.PyData.depth, PySem.PyData.depthAll]
      omega
def pr (x : D) : D := .tuple [x, x]
def prs (ts : List Tt) : List D := ts.map fun t => pr t.dat
theorem prs_shape : ∀ ts : List Tt, PySem.PyData.canLayAll0 (prs ts) = true ∧ PySem.PyData.depthAll (prs ts) ≤ 20
  | [] => ⟨rfl, by simp [prs, PySem.PyData.depthAll]⟩
  | t :: ts => by
    obtain ⟨h1, h2⟩ := prs_shape ts
    obtain ⟨h3, h4⟩ := t.shape
    show PySem.PyData.canLayAll0 (pr t.dat :: prs ts) = true ∧ PySem.PyData.depthAll (pr t.dat :: prs ts) ≤ 20
    refine ⟨by simp [pr, PySem.PyData.canLayAll0, PySem.PyData.canLay0, h1, h3], ?_⟩
    simp only [pr, PySem.PyData.depthAll, PySem.PyData.depth]
    omega
theorem prs_ne (ts : List Tt) : cmpD .ne (.list (prs ts)) (.list []) = some (!ts.isEmpty) := by
  obtain ⟨h1, h2⟩ := prs_shape ts
  have l : lay (.list (prs ts)) = true := by
    show (PySem.PyData.canLay0 (.list (prs ts)) && decide ((PySem.PyData.list (prs ts)).depth ≤ 64)) = true
    have e : (PySem.PyData.list (prs ts)).depth ≤ 64 := by simp only [PySem.PyData.depth]; omega
    simp only [PySem.PyData.canLay0, h1, e, decide_true, Bool.and_self]
  rw [cmp_neG (by rw [l, lay_nil]; rfl)]
  cases ts <;> simp [prs, PySem.PyData.eqv, PySem.PyData.eqvAll]
theorem prs_app (xs ys : List Tt) : prs (xs ++ ys) = prs xs ++ prs ys := by simp [prs]
theorem pairs_self : ∀ xs : List D, pairsD xs xs = xs.map pr
  | [] => rfl
  | x :: xs => by
    have := pairs_self xs
    show pr x :: pairsD xs xs = _
    rw [this]
    rfl
theorem Tt.cases (t : Tt) : (t.kids = [] ∧ ∃ z, t.dat = .int z) ∨ ∃ xs, (t.dat = .tuple xs ∨ t.dat = .list xs) ∧ xs.map pr = prs t.kids ∧ xs.length = t.kids.length := by
  cases t with
  | i z => exact .inl ⟨rfl, z, rfl⟩
  | f q => exact .inr ⟨[.int q.num, .int q.den], .inl rfl, rfl, rfl⟩
  | s as => exact .inr ⟨frs as, .inl rfl, by simp [frs, prs, Tt.kids, Tt.dat], by simp [frs, Tt.kids]⟩
  | f2 q => exact .inr ⟨[fr q, fr q], .inr rfl, rfl, rfl⟩
  | s2 as => exact .inr ⟨[.tuple (frs as), .tuple (frs as)], .inr rfl, rfl, rfl⟩
def cSm : Ex := .cmp .ne (.bor 2) (.lst .nil)
def bSm : Sts := (.cons (.asgT (.tp (.cons (.nm 3) (.cons (.nm 4) .nil))) (.pop 2))
  (.cons (.ite (.isin (.bor 3) [.tuple, .list])
  (.cons (.ite (.or (.not (.isin (.bor 4) [.tuple, .list])) (.or (.cmp .ne (.isin (.bor 3) [.tuple]) (.isin (.bor 4) [.tuple])) (.cmp .ne (.bi .len (.cons (.bor 3) .nil)) (.bi .len (.cons (.bor 4) .nil)))))
  (.cons (.ret (.bl false))
  .nil)
  .nil)
  (.cons (.extend 2 (.bi .listZip (.cons (.bor 3) (.cons (.bor 4) .nil))))
  .nil))
  (.cons (.ite (.isin (.bor 3) [.int, .str])
  (.cons (.ite (.or (.not (.isin (.bor 4) [.int, .str])) (.or (.cmp .ne (.isin (.bor 3) [.bool]) (.isin (.bor 4) [.bool])) (.cmp .ne (.bor 3) (.bor 4))))
  (.cons (.ret (.bl false))
  .nil)
  .nil)
  .nil)
  (.cons (.ite (.or (.cmp .notN (.bor 3) .non) (.cmp .notN (.bor 4) .non))
  (.cons (.ret (.bl false))
  .nil)
  .nil)
  .nil))
  .nil))
  .nil))
theorem snoc_casesT (ts : List Tt) : ts = [] ∨ ∃ bs b, ts = bs ++ [b] := by
  rcases List.eq_nil_or_concat ts with h | ⟨bs, b, h⟩
  · exact .inl h
  · exact .inr ⟨bs, b, by rw [h, List.concat_eq_append]⟩
theorem sm_loop {G : G1} (s0 s1 : Option Vl) : ∀ (m : Nat) (ts : List Tt) (f : Nat) (s3 s4 : Option Vl), cst ts ≤ m → m < f → m ≤ 10000 → ∃ s3' s4', whileE G n cSm bSm f [s0, s1, some (.own (prs ts)), s3, s4] = .ret (.nx [s0, s1, some (.own []), s3', s4']) := by
  intro m
  induction m with
  | zero =>
    intro ts f s3 s4 hm hf hl
    obtain ⟨f, rfl⟩ : ∃ f', f = f' + 1 := ⟨f - 1, by omega⟩
    have h0 := cst_len ts
    have : ts = [] := List.eq_nil_of_length_eq_zero (by omega)
    subst this
    have e := prs_ne []
    refine ⟨s3, s4, ?_⟩
    rw [whileE_s]
    simp -dsimp -implicitDefEqProofs [cSm, e]
    rfl
  | succ m ih =>
    intro ts f s3 s4 hm hf hl
    obtain ⟨f, rfl⟩ : ∃ f', f = f' + 1 := ⟨f - 1, by omega⟩
    rcases snoc_casesT ts with rfl | ⟨us, t, rfl⟩
    · have e := prs_ne []
      refine ⟨s3, s4, ?_⟩
      rw [whileE_s]
      simp -dsimp -implicitDefEqProofs [cSm, e]
      rfl
    · have en := prs_ne (us ++ [t])
      have ep : prs (us ++ [t]) = prs us ++ [.tuple [t.dat, t.dat]] := by rw [prs_app]; rfl
      have en' : (us ++ [t]).isEmpty = false := by cases us <;> rfl
      rw [ep, en'] at en
      have hc : cst (us ++ [t]) = cst us + t.cost := by rw [cst_app]; simp [cst]
      have hk := t.cost_eq
      have hku : cst (us ++ t.kids) ≤ m := by rw [cst_app]; omega
      obtain ⟨s3', s4', e⟩ := ih (us ++ t.kids) f (some (.d t.dat)) (some (.d t.dat)) hku (by omega) (by omega)
      refine ⟨s3', s4', ?_⟩
      have l1 : (prs us).length = us.length := by simp [prs]
      have l2 := cst_len us
      have l3 := cst_len t.kids
      rw [cst_app] at hku
      rw [ep, whileE_s]
      rcases t.cases with ⟨h1, z, h2⟩ | ⟨xs, h1, h2, h3⟩
      · rw [h1, List.append_nil, h2] at e
        rw [h2] at en ⊢
        simp -dsimp -implicitDefEqProofs [cSm, bSm, en, isinD, isT]
        simpa -dsimp -implicitDefEqProofs [cSm, bSm] using e
      · have lx : xs.length < 16777216 := by omega
        have ly : us.length + xs.length ≤ 16777216 := by omega
        rcases h1 with h1 | h1
        · rw [h1, prs_app, ← h2] at e
          rw [h1] at en ⊢
          simp -dsimp -implicitDefEqProofs [cSm, bSm, en, isinD, isT, pairs_self, lx, ly, l1]
          simpa -dsimp -implicitDefEqProofs [cSm, bSm] using e
        · rw [h1, prs_app, ← h2] at e
          rw [h1] at en ⊢
          simp -dsimp -implicitDefEqProofs [cSm, bSm, en, isinD, isT, pairs_self, lx, ly, l1]
          simpa -dsimp -implicitDefEqProofs [cSm, bSm] using e
theorem same_eq (hn : Fuel n) (t : Tt) (ht : t.cost ≤ 10000) : call P prim n (k + 1) f__law_same [.d t.dat, .d t.dat] = .ret (.d (.bool true)) := by
  obtain ⟨s3', s4', e⟩ := sm_loop (n := n) (G := call P prim n k) (some (.d t.dat)) (some (.d t.dat)) t.cost [t] n none none (by simp [cst]) (by
    have := hn.lt (d := 10000) (Nat.lt_of_lt_of_le (show 10000 < 2 ^ 20 by decide) (Nat.pow_le_pow_right (by decide) (by decide)))
    omega) ht
  have e0 : prs [t] = [.tuple [t.dat, t.dat]] := rfl
  unfold cSm bSm at e
  rw [e0] at e
  rw [call_s (d := d__law_same) (h := rfl), run_eq _ _ rfl]
  simp -dsimp -implicitDefEqProofs [d__law_same, b__law_same, rdVar_eq]
  rw [e]
  simp -dsimp -implicitDefEqProofs [rdVar_eq]
end K92
end

section
set_option linter.all false
set_option maxRecDepth 100000
open TP RR
namespace K92
variable {prim : Nat → List Vl → M Vl} {n k : Nat}
/-! ### what can be handed in -/
def SL : Nat := 1900
structure Shw (q : Rat) : Prop where
  n : q.num.natAbs < 2 ^ SL
  d : q.den < 2 ^ SL
theorem log_SL {a : Nat} (h : a < 2 ^ SL) : a.log2 < 1920 := by
  have := log_lt h (by decide)
  have : SL = 1900 := rfl
  omega
theorem show_fr {q : Rat} (h : Shw q) : (fr q).showable = true := by
  have h1 := log_SL h.n
  have h2 := log_SL h.d
  unfold fr
  simp only [PySem.PyData.showable, PySem.PyData.showableAll, Bool.and_true, Bool.and_eq_true, decide_eq_true_eq, Int.natAbs_natCast]
  exact ⟨h1, h2⟩
theorem show_frs : ∀ {as : List Rat}, (∀ a ∈ as, Shw a) → (PySem.PyData.tuple (frs as)).showable = true
  | [], _ => rfl
  | a :: as, h => by
    have h1 := show_fr (h a (by simp))
    have h2 := show_frs (as := as) fun b hb => h b (List.mem_cons_of_mem _ hb)
    simp only [PySem.PyData.showable] at h2 ⊢
    show (PySem.PyData.showableAll (fr a :: frs as)) = true
    simp [PySem.PyData.showableAll, h1, h2]
theorem isFrac_fr (q : Rat) : isFrac (fr q) = true := by
  refine isFrac_mk (by have := q.den_pos; omega) ?_
  have := q.reduced
  unfold Int.gcd
  rw [Int.natAbs_natCast]
  exact this
theorem cut_last {as : List Rat} (h : cutQ as = as) : as = [] ∨ ∃ bs b, as = bs ++ [b] ∧ b ≠ 0 := by
  rcases snoc_cases as with e | ⟨bs, b, e⟩
  · exact .inl e
  · refine .inr ⟨bs, b, e, fun h0 => ?_⟩
    rw [e, h0, cutQ_snoc0] at h
    have h1 := cut_len bs
    rw [h, List.length_append, List.length_singleton] at h1
    omega
theorem isPoly_frs {as : List Rat} (h1 : as.length ≤ 9) (h2 : cutQ as = as) : isPoly (.tuple (frs as)) = true := by
  have e1 : (frs as).length ≤ 9 := by simpa [frs] using h1
  have e2 : (frs as).all isFrac = true := by
    rw [List.all_eq_true]
    intro x hx
    obtain ⟨q, _, rfl⟩ := List.mem_map.mp hx
    exact isFrac_fr q
  unfold isPoly
  dsimp only
  rw [e2, decide_eq_true e1]
  rcases cut_last h2 with rfl | ⟨bs, b, rfl, h0⟩
  · rfl
  · have e3 : (frs (bs ++ [b])).getLast? = some (fr b) := by rw [frs_snoc]; simp
    rw [e3]
    have : b.num ≠ 0 := fun h => h0 (Rat.num_eq_zero.mp h)
    simp [fr, this]
theorem isFactory_frs {bs : List Rat} (h0 : 1 ≤ bs.length) (h1 : bs.length ≤ 41) (h2 : ∀ b ∈ bs, 0 ≤ b.num ∧ b.num ≤ b.den) : isFactory (.tuple (frs bs)) = true := by
  have e0 : 1 ≤ (frs bs).length := by simpa [frs] using h0
  have e1 : (frs bs).length ≤ 41 := by simpa [frs] using h1
  have e2 : (frs bs).all isChance = true := by
    rw [List.all_eq_true]
    intro x hx
    obtain ⟨q, hq, rfl⟩ := List.mem_map.mp hx
    have := isFrac_fr q
    obtain ⟨h3, h4⟩ := h2 q hq
    unfold fr isFrac at this
    unfold fr isChance
    simp at this ⊢
    exact ⟨⟨this, Rat.num_nonneg.mp h3⟩, h4⟩
  unfold isFactory
  dsimp only
  rw [e2, decide_eq_true e0, decide_eq_true e1]
  rfl
theorem need_polynomial_eq (hn : Fuel n) {as : List Rat} (h : ∀ a ∈ as, Shw a) (h1 : as.length ≤ 9) (h2 : cutQ as = as) : call P prim n (k + 4) f_need_polynomial [.d (.tuple (frs as))] = .ret (.d .none) := by
  have e := is_polynomial_value_eq (prim := prim) (k := k) (.tuple (frs as)) hn.big (show_frs h)
  rw [isPoly_frs h1 h2] at e
  rw [call_s (d := d_need_polynomial) (h := rfl), run_eq _ _ rfl]
  simp -dsimp -implicitDefEqProofs [d_need_polynomial, b_need_polynomial, rdVar_eq, e]
theorem need_factory_eq (hn : Fuel n) {bs : List Rat} (h : ∀ a ∈ bs, Shw a) (h0 : 1 ≤ bs.length) (h1 : bs.length ≤ 41) (h2 : ∀ b ∈ bs, 0 ≤ b.num ∧ b.num ≤ b.den) : call P prim n (k + 5) f_need_factory [.d (.tuple (frs bs))] = .ret (.d .none) := by
  have e := is_factory_value_eq (prim := prim) (k := k) (.tuple (frs bs)) hn.big (show_frs h)
  rw [isFactory_frs h0 h1 h2] at e
  rw [call_s (d := d_need_factory) (h := rfl), run_eq _ _ rfl]
  simp -dsimp -implicitDefEqProofs [d_need_factory, b_need_factory, rdVar_eq, e]
theorem need_bias_eq (hn : Fuel n) {p : Rat} (h : Shw p) (h0 : 0 < p.num) (h1 : p.num < p.den) : call P prim n (k + 4) f_need_bias [.d (fr p)] = .ret (.d .none) := by
  have e := is_fraction_eq (prim := prim) (k := k) (fr p) hn.big (show_fr h)
  rw [isFrac_fr] at e
  have g1 := log_SL h.n
  have g2 := log_SL h.d
  have e2 := is_less_eq (prim := prim) (n := n) (k := k + 1) p.num p.den 1 1 (big1_one g1).1 (big1_one (i := p.den) (by rw [Int.natAbs_natCast]; exact g2)).2
  have e3 : decide (p.num * 1 < 1 * (p.den : Int)) = true := by
    rw [decide_eq_true_eq]
    omega
  rw [e3] at e2
  have e4 : L2.atI [PySem.PyData.int p.num, .int p.den] 0 = some (.int p.num) := (atI2 _ _).1
  have eb : call P prim n (k + 3) f_is_bias [.d (fr p)] = .ret (.d (.bool true)) := by
    rw [call_s (d := d_is_bias) (h := rfl), run_eq _ _ rfl]
    unfold fr at e ⊢
    simp -dsimp -implicitDefEqProofs [d_is_bias, b_is_bias, rdVar_eq, e, e2, e4, h0]
  rw [call_s (d := d_need_bias) (h := rfl), run_eq _ _ rfl]
  simp -dsimp -implicitDefEqProofs [d_need_bias, b_need_bias, rdVar_eq, eb]
/-- a polynomial and a place that can be worked on -/
structure PX (L l c : Nat) (as : List Rat) (x : Rat) : Prop where
  L0 : 0 < L
  c0 : 0 < c
  l1 : l ≤ 10000000
  len : as.length ≤ 9
  row : Row L l as
  dx : Dn c x
  sx : Sz 50 x
  bd : L * c ^ as.length < 2 ^ LD
  cut : cutQ as = as
  sh : ∀ a ∈ as, Shw a
  shx : Shw x
section
variable {L l N c : Nat} {as bs : List Rat} {x p : Rat}
theorem PX_le (l m : Nat) (h1 : l ≤ 10000000) (h2 : m ≤ 9) : l + (m + 1) * (LD + 60) ≤ LN := by
  have h3 := Nat.mul_le_mul_right (LD + 60) (show m + 1 ≤ 10 by omega)
  have h9 : 10000000 + 10 * (LD + 60) ≤ LN := by decide
  exact Nat.le_trans (Nat.add_le_add h1 h3) h9
theorem PV_le (l m : Nat) (h1 : l ≤ 10000000) (h2 : m ≤ 41) : 50 + (l + 40 * (LD + 1)) + (m + 1) * (LD + 60) ≤ LN := by
  have h3 := Nat.mul_le_mul_right (LD + 60) (show m + 1 ≤ 42 by omega)
  have h9 : 50 + (10000000 + 40 * (LD + 1)) + 42 * (LD + 60) ≤ LN := by decide
  exact Nat.le_trans (Nat.add_le_add (Nat.add_le_add_left (Nat.add_le_add_right h1 _) 50) h3) h9
theorem PX.le (h : PX L l c as x) : l + (as.length + 1) * (LD + 60) ≤ LN := PX_le l as.length h.l1 h.len
theorem law_value_eq (hn : Fuel n) (h : PX L l c as x) : call P prim n (k + 4) f__law_value [.d (.tuple (frs as)), .d (fr x)] = .ret (.d (fr (val as x))) :=
  (value_eq hn h.L0 h.c0 as h.row x h.dx h.sx h.bd h.le).2
theorem value_at_eq (hn : Fuel n) (h : PX L l c as x) : call P prim n (k + 5) f_value_at [.d (.tuple (frs as)), .d (fr x)] = .ret (.d (fr (val as x))) := by
  have e1 := need_polynomial_eq (prim := prim) (k := k) hn h.sh h.len h.cut
  have e2 := is_fraction_eq (prim := prim) (k := k + 2) (fr x) hn.big (show_fr h.shx)
  have e3 := (value_eq (prim := prim) (k := k) hn h.L0 h.c0 as h.row x h.dx h.sx h.bd h.le).1
  rw [isFrac_fr] at e2
  rw [call_s (d := d_value_at) (h := rfl), run_eq _ _ rfl]
  simp -dsimp -implicitDefEqProofs [d_value_at, b_value_at, rdVar_eq, e1, e2, e3]
theorem numbers_of_eq (hn : Fuel n) (h : Pn L l N as) (hs : ∀ a ∈ as, Shw a) (hc : cutQ as = as) : call P prim n (k + 6) f_numbers_of [.d (.tuple (frs as)), .d (.int N)] = .ret (.d (.tuple (frs (nums N as)))) := by
  have e1 := need_polynomial_eq (prim := prim) (k := k + 1) hn hs h.len hc
  have e3 := raw_numbers_eq (prim := prim) (k := k) hn h
  have hN := h.N40
  have hd := h.deg
  have ed : call P prim n (k + 5) f_degree_of [.d (.tuple (frs as))] = .ret (.d (.int (if 0 < as.length then (as.length : Int) - 1 else 0))) := by
    have el : (frs as).length = as.length := by simp [frs]
    rw [call_s (d := d_degree_of) (h := rfl), run_eq _ _ rfl]
    simp -dsimp -implicitDefEqProofs [d_degree_of, b_degree_of, rdVar_eq, el]
    split <;> split <;> omega
  have e2 := is_between_eq (prim := prim) (n := n) (k := k + 3) (.int N) (if 0 < as.length then (as.length : Int) - 1 else 0) 40
  have e4 : between (.int (N : Int)) (if 0 < as.length then (as.length : Int) - 1 else 0) 40 = true := by
    show (decide _ && decide _) = true
    rw [Bool.and_eq_true, decide_eq_true_eq, decide_eq_true_eq]
    constructor
    · split <;> omega
    · omega
  rw [e4] at e2
  rw [call_s (d := d_numbers_of) (h := rfl), run_eq _ _ rfl]
  simp -dsimp -implicitDefEqProofs [d_numbers_of, b_numbers_of, rdVar_eq, e1, ed, e2, e3]
/-- a factory that can be worked on -/
structure FA (L l N : Nat) (bs : List Rat) : Prop where
  nu : Nu L l N bs
  sh : ∀ b ∈ bs, Shw b
  ch : ∀ b ∈ bs, 0 ≤ b.num ∧ b.num ≤ b.den
theorem FA.need (hn : Fuel n) (h : FA L l N bs) : call P prim n (k + 5) f_need_factory [.d (.tuple (frs bs))] = .ret (.d .none) := by
  have h1 := h.nu.len
  have h2 := h.nu.N40
  exact need_factory_eq hn h.sh (by omega) (by omega) h.ch
theorem polynomial_of_eq (hn : Fuel n) (h : FA L l N bs) : call P prim n (k + 6) f_polynomial_of [.d (.tuple (frs bs))] = .ret (.d (.tuple (frs (cutQ (polyN N bs (N + 1)))))) := by
  have e1 := h.need (prim := prim) (k := k) hn
  have e2 := raw_polynomial_eq (prim := prim) (k := k) hn h.nu
  rw [call_s (d := d_polynomial_of) (h := rfl), run_eq _ _ rfl]
  simp -dsimp -implicitDefEqProofs [d_polynomial_of, b_polynomial_of, rdVar_eq, e1, e2]
theorem poly_row (h : Nu L l N bs) : Row L (50 + (l + 40 * (LD + 1))) (cutQ (polyN N bs (N + 1))) := by
  intro a ha
  obtain ⟨i, hi, rfl⟩ := List.mem_map.mp (cut_mem ha)
  have hi' := (List.mem_range'_1.mp hi).2
  have hN := h.N40
  obtain ⟨d, s⟩ := h.it i 0 (by omega)
  have d2 : Dn L (coef N bs i) := by
    have := (Dn.int (choose N i : Nat)).mul d
    rw [Nat.one_mul] at this
    exact this
  have hij : i * (LD + 1) ≤ 40 * (LD + 1) := Nat.mul_le_mul_right _ (by omega)
  exact ⟨d2, ((choose_sz (N := N) (i := i) hN).times s (dn_sz h.L0 h.lt d2)).mono (by omega)⟩
theorem poly_len (N : Nat) (bs : List Rat) : (cutQ (polyN N bs (N + 1))).length ≤ N + 1 := by
  have := cut_len (polyN N bs (N + 1))
  simpa [polyN] using this
/-- the value of a factory's polynomial, by the program and by the law -/
theorem poly_value (hn : Fuel n) (h : Nu L l N bs) (hp : Bi c p) (hL : L * c ^ (N + 1) < 2 ^ LB) (hl : l ≤ 10000000) :
    call P prim n (k + 4) f_raw_value [.d (.tuple (frs (cutQ (polyN N bs (N + 1))))), .d (fr p)] = .ret (.d (fr (val (cutQ (polyN N bs (N + 1))) p))) ∧ call P prim n (k + 4) f__law_value [.d (.tuple (frs (cutQ (polyN N bs (N + 1))))), .d (fr p)] = .ret (.d (fr (val (cutQ (polyN N bs (N + 1))) p))) := by
  have h1 := poly_len N bs
  have hN := h.N40
  refine value_eq hn h.L0 hp.c0 _ (poly_row h) p hp.dp hp.sp ?_ ?_
  · have : L * c ^ (cutQ (polyN N bs (N + 1))).length ≤ L * c ^ (N + 1) := Nat.mul_le_mul_left L (Nat.pow_le_pow_right hp.c0 h1)
    exact Nat.lt_trans (Nat.lt_of_le_of_lt this hL) (Nat.pow_lt_pow_right (by decide) (by decide))
  · exact PV_le l _ hl (by omega)
theorem chance_at_eq (hn : Fuel n) (h : FA L l N bs) (hp : Bi c p) (hL : L * c ^ (N + 1) < 2 ^ LB) (hl : l ≤ 10000000) (hs : Shw p) (h0 : 0 < p.num) (h1 : p.num < p.den) : call P prim n (k + 6) f_chance_at [.d (.tuple (frs bs)), .d (fr p)] = .ret (.d (fr (val (cutQ (polyN N bs (N + 1))) p))) := by
  have e1 := h.need (prim := prim) (k := k) hn
  have e2 := raw_polynomial_eq (prim := prim) (k := k) hn h.nu
  have e3 := need_bias_eq (prim := prim) (k := k + 1) hn hs h0 h1
  have e4 := (poly_value (prim := prim) (k := k + 1) hn h.nu hp hL hl).1
  rw [call_s (d := d_chance_at) (h := rfl), run_eq _ _ rfl]
  simp -dsimp -implicitDefEqProofs [d_chance_at, b_chance_at, rdVar_eq, e1, e2, e3, e4]
end
end K92
end

section
set_option linter.all false
set_option maxRecDepth 100000
open TP RR
namespace K92
variable {prim : Nat → List Vl → M Vl} {n k : Nat}
section
variable {L l N c : Nat} {as bs : List Rat} {x p : Rat}
theorem sumL_row (h0 : 0 < L) (h1 : L < 2 ^ LD) : ∀ (rs : List Rat) (f : Rat) (i : Nat), Row L l rs → Dn L f → Sz (l + i * (LD + 1)) f → Dn L (sumL f rs) ∧ Sz (l + (i + rs.length) * (LD + 1)) (sumL f rs)
  | [], f, i, hr, hf, hs => ⟨hf, hs⟩
  | a :: rs, f, i, hr, hf, hs => by
    obtain ⟨ha, hsa⟩ := hr a (by simp)
    have hp := hf.add ha
    have e0 : (i + 1) * (LD + 1) = i * (LD + 1) + (LD + 1) := Nat.succ_mul _ _
    have hps : Sz (l + (i + 1) * (LD + 1)) (f + a) := (hs.plus (k := l + i * (LD + 1)) hsa (Nat.le_refl _) (by omega) (dn_sz h0 h1 hp)).mono (by omega)
    have := sumL_row h0 h1 rs (f + a) (i + 1) (fun b hb => hr b (List.mem_cons_of_mem _ hb)) hp hps
    rw [show i + 1 + rs.length = i + (a :: rs).length by rw [List.length_cons]; omega] at this
    exact this
theorem nums_nu (h : Pn L l N as) : Nu (L * KN N as.length) (50 + l + 9 * (LD + 1)) N (nums N as) where
  L0 := h.bound.1
  L1 := by
    have h1 := KN_le h.N40 as.length
    have h2 : KN N as.length ≤ 2 ^ 360 := Nat.le_trans h1 (Nat.pow_le_pow_right (by decide) (by have := h.len; omega))
    have h3 : L * KN N as.length ≤ 2 ^ 1000 * 2 ^ 360 := Nat.mul_le_mul (Nat.le_of_lt h.L1) h2
    have h4 : 2 ^ 1000 * 2 ^ 360 < 2 ^ LB := by
      rw [← Nat.pow_add]
      exact Nat.pow_lt_pow_right (by decide) (by decide)
    exact Nat.lt_of_le_of_lt h3 h4
  l1 := by
    have h9 : 50 + 10000000 + 9 * (LD + 1) ≤ 50000000 := by decide
    exact Nat.le_trans (Nat.add_le_add_right (Nat.add_le_add_left h.l1 50) _) h9
  len := by simp [nums]
  N40 := h.N40
  row := by
    intro a ha
    obtain ⟨kk, hk, rfl⟩ := List.mem_map.mp ha
    have hk' := (List.mem_range'_1.mp hk).2
    have hN := h.N40
    obtain ⟨r1, r2⟩ := parts_row h (kk := kk) (by omega)
    obtain ⟨d, s⟩ := sumL_row h.bound.1 h.bound.2 _ 0 0 r1 (zero_dn _) (zero_sz _)
    refine ⟨d, s.mono ?_⟩
    rw [Nat.zero_add]
    exact Nat.add_le_add_left (Nat.mul_le_mul_right _ r2) _
/-- what can be printed -/
structure Fs (q : Rat) : Prop where
  n : q.num.natAbs.log2 < 400
  d : q.den.log2 < 400
theorem fine_fr {q : Rat} (h : Fs q) : Fine 1 812 (fr q) := by
  have h1 := Fine.int h.n
  have h2 := Fine.int (i := q.den) (by rw [Int.natAbs_natCast]; exact h.d)
  exact (Fine.tuple (FineL.cons h1 (FineL.cons h2 (FineL.nil (w := 0))))).mono (by omega) (by omega)
theorem fine_frs (h : ∀ a ∈ as, Fs a) : Fine 2 (812 * as.length + 6) (.tuple (frs as)) := by
  have := Fine.tuple (FineL.of_each (xs := frs as) (d := 1) (w := 812) fun y hy => by
    obtain ⟨q, hq, rfl⟩ := List.mem_map.mp hy
    exact fine_fr (h q hq))
  simpa [frs] using this
theorem fs_shw {q : Rat} (h : Fs q) : Shw q := by
  have a1 : q.num.natAbs < 2 ^ SL := by
    by_cases h0 : q.num.natAbs = 0
    · rw [h0]; exact Nat.two_pow_pos _
    · exact (Nat.log2_lt h0).mp (Nat.lt_trans h.n (by decide))
  have a2 : q.den < 2 ^ SL := (Nat.log2_lt (by have := q.den_pos; omega)).mp (Nat.lt_trans h.d (by decide))
  exact ⟨a1, a2⟩
theorem eqv_frs : ∀ as : List Rat, PySem.PyData.eqvAll (frs as) (frs as) = true
  | [] => rfl
  | a :: as => by
    show PySem.PyData.eqvAll (fr a :: frs as) (fr a :: frs as) = true
    have h1 := eqv_fr a a
    rw [decide_eq_true rfl] at h1
    simp only [PySem.PyData.eqvAll, h1, eqv_frs as, Bool.and_self]
theorem cmp_frs (as : List Rat) : cmpD .eq (.tuple (frs as)) (.tuple (frs as)) = some true := by
  rw [cmp_eqG (by rw [lay_frs]; rfl)]
  simp only [PySem.PyData.eqv, eqv_frs]
theorem repr_pair (h : ∀ a ∈ as, Fs a) (hx : Fs x) (hl : as.length ≤ 41) : ((PySem.PyData.tuple [.tuple (frs as), fr x]).showable && decide ((PySem.PyData.tuple [.tuple (frs as), fr x]).shown.length ≤ 16777216) && decide ((PySem.PyData.tuple [.tuple (frs as), fr x]).depth ≤ 64)) = true := by
  have h1 := fine_frs h
  have h2 := fine_fr hx
  exact (Fine.tuple (FineL.cons h1 (FineL.cons (h2.mono (d' := 2) (by omega) (Nat.le_refl _)) (FineL.nil (w := 0))))).repr (by omega) (by omega)
theorem ord2 (a b : Vl) : order [1, 0] [a, b] = [b, a] := rfl
theorem ord1 (a : Vl) : order [0] [a] = [a] := rfl
theorem is_poly_right_eq (hn : Fuel n) (hp : PX L l c as x) (hN : Pn L l N as) (hf : ∀ a ∈ as, Fs a) (hx : Fs x) : call P prim n (k + 7) f__law_is_poly_right [.d (.tuple (frs as)), .d (fr x), .d (.int N)] = .ret (.d (.bool true)) := by
  have e1 := law_value_eq (prim := prim) (k := k + 2) hn hp
  have e2 := value_at_eq (prim := prim) (k := k + 1) hn hp
  have e3 := law_numbers_eq (prim := prim) (k := k + 1) hn hN
  have e4 := numbers_of_eq (prim := prim) (k := k) hn hN hp.sh hp.cut
  have e5 := law_polynomial_eq (prim := prim) (k := k + 1) hn (nums_nu hN)
  rw [poly_nums N as hN.deg, hp.cut] at e5
  have e6 := repr_pair hf hx (by have := hp.len; omega)
  have h41 := hN.N40
  have s1 : call P prim n (k + 6) f__law_same [.d (.list [fr (val as x), fr (val as x)]), .d (.list [fr (val as x), fr (val as x)])] = .ret (.d (.bool true)) := same_eq (prim := prim) (k := k + 5) hn (.f2 (val as x)) (show 7 ≤ 10000 by decide)
  have s2 : call P prim n (k + 6) f__law_same [.d (.list [.tuple (frs (nums N as)), .tuple (frs (nums N as))]), .d (.list [.tuple (frs (nums N as)), .tuple (frs (nums N as))])] = .ret (.d (.bool true)) := same_eq (prim := prim) (k := k + 5) hn (.s2 (nums N as)) (by
    simp only [Tt.cost, nums, List.length_map, List.length_range']
    omega)
  have e7 := cmp_frs as
  rw [call_s (d := d__law_is_poly_right) (h := rfl), run_eq _ _ rfl]
  simp -dsimp -implicitDefEqProofs [d__law_is_poly_right, b__law_is_poly_right, rdVar_eq, e1, e2, e3, e4, e5, e6, e7, s1, s2, ord2]
end
end K92
end

section
set_option linter.all false
set_option maxRecDepth 100000
open TP RR
namespace K92
variable {prim : Nat → List Vl → M Vl} {n k : Nat}
theorem b1_l {i j : Int} (h : PySem.Builtin.Int.intBits i ≤ 64) : big1 i j := PySem.IntMulOk.of_left h
theorem b1_r {i j : Int} (h : PySem.Builtin.Int.intBits j ≤ 64) : big1 i j := PySem.IntMulOk.of_right h
theorem bits64 {i : Int} (h : i.natAbs < 2 ^ 60) : PySem.Builtin.Int.intBits i ≤ 64 := by
  unfold PySem.Builtin.Int.intBits
  split
  · omega
  · rename_i h0
    have h1 : i.natAbs ≠ 0 := by simpa using h0
    have : i.natAbs.log2 < 60 := (Nat.log2_lt h1).mpr h
    omega
theorem b1_mod (a m : Int) (h0 : 0 < m) (h1 : m < 2 ^ 60) : big1 (a % m) (a % m) := by
  refine b1_l (bits64 ?_)
  have := Int.emod_nonneg a (Int.ne_of_gt h0)
  have := Int.emod_lt_of_pos a h0
  omega
theorem mx_ok {m : Int} (h0 : 0 < m) (h : m.natAbs.log2 < 9000) : mxOk m = some () := by
  unfold mxOk mx2
  split
  · simp [h]
  · simp
    decide
/-- what a draw gives -/
abbrev isDraw (m : Int) (v : Vl) : Prop := ∃ r : Int, v = .d (.int r) ∧ 0 ≤ r ∧ r < m
theorem draw_mod (a m : Int) (h0 : 0 < m) : isDraw m (.d (.int (a % m))) := ⟨_, rfl, Int.emod_nonneg _ (Int.ne_of_gt h0), Int.emod_lt_of_pos _ h0⟩
theorem draw_all0 (m : Int) (h0 : 0 < m) (h1 : m.natAbs.log2 < 9000) : Gives (call P prim n (k + 1) f__law_draw [.deck, .d (.int m)]) (isDraw m) := by
  rw [call_s (d := d__law_draw) (h := rfl), run_eq _ _ rfl]
  have e1 : ∀ x : Int, big1 61473 x := fun x => b1_l (by decide)
  have e2 : ∀ x : Int, big1 x 39373 := fun x => b1_r (by decide)
  have e3 : ∀ x : Int, big1 (x % 2147483647) (x % 2147483647) := fun x => b1_mod x _ (by decide) (by decide)
  have e4 : ∀ x : Int, big1 52713 x := fun x => b1_l (by decide)
  have e5 : ∀ x : Int, big1 x 40692 := fun x => b1_r (by decide)
  have e6 : big2 64 := ⟨by decide, by decide⟩
  have e7 := mx_ok h0 h1
  have fin : ∀ x : Int, isDraw m (.d (.int (x % m))) := fun x => draw_mod x m h0
  simp -dsimp -implicitDefEqProofs [d__law_draw, b__law_draw, e1]
  intro a b c
  by_cases hc : c = 0
  · simp -dsimp -implicitDefEqProofs [hc, e2, e3, e4, e5, e6, h0]
    exact fun r => fin _
  · simp -dsimp -implicitDefEqProofs [hc]
    intro f
    by_cases hf : 1000000000000000000 ≤ f
    · simp -dsimp -implicitDefEqProofs [hf, e7, h0]
      exact fin _
    · simp -dsimp -implicitDefEqProofs [hf, e2, e3, e4, e5, e6, h0]
      exact fun r => fin _
theorem draw_all (m : Int) (h0 : 0 < m) (h1 : m < 2 ^ 60) : Gives (call P prim n (k + 1) f__law_draw [.deck, .d (.int m)]) (isDraw m) := by
  refine draw_all0 m h0 ?_
  have : m.natAbs.log2 < 60 := (Nat.log2_lt (by omega)).mpr (by omega)
  omega
theorem deckOk_own (xs : List D) (is : List Int) (h : intsD xs = some is) (hl : xs.length ≤ 63) : deckOk (.own xs) = some () := by
  show (if xs.length ≤ 63 then (intsD xs).map fun _ => () else none) = some ()
  rw [if_pos hl, h]
  rfl
theorem intsD_il (is : List Int) : intsD (il is) = some is := by
  have := intsD_map (fun i : Int => i) is
  simpa [il] using this
def bDeck : Sts := .cons (.asg 1 (.bin .mod (.bi .int (.cons (.bin .add (.bin .add (.bin .mul (.bor 1) (.int 48271)) (.bin .mod (.bi .int (.cons (.bor 2) .nil)) (.int 2147483629))) (.int 17)) .nil)) (.int 2147483587))) .nil
theorem deck_loop {G : G1} (s0 : Option Vl) : ∀ (xs : List Int) (a : Int) (s2 : Option Vl), ∃ a' s2', forE G n (.nm 2) bDeck (il xs) [s0, some (.d (.int a)), s2] = .ret (.nx [s0, some (.d (.int a')), s2'])
  | [], a, s2 => ⟨a, s2, by simp [il]⟩
  | x :: xs, a, s2 => by
    obtain ⟨a', s2', e⟩ := deck_loop (G := G) s0 xs ((a * 48271 + x % 2147483629 + 17) % 2147483587) (some (.d (.int x)))
    refine ⟨a', s2', ?_⟩
    have e1 : big1 a 48271 := b1_r (by decide)
    have e2 : il (x :: xs) = .int x :: il xs := rfl
    rw [e2, forE_c]
    simp -dsimp -implicitDefEqProofs [bDeck, e1]
    unfold bDeck at e
    exact e
theorem deck_all (ns : List Int) (mx : Int) : Gives (call P prim n (k + 1) f__law_deck [.scr ns, .d (.int mx)]) (fun v => v = .deck) := by
  rw [call_s (d := d__law_deck) (h := rfl), run_eq _ _ rfl]
  obtain ⟨a', s2', e⟩ := deck_loop (n := n) (G := call P prim n k) (some (.scr ns)) (ns.take 63) mx none
  unfold bDeck at e
  have e2 : il (ns.take 63) = (ns.take 63).map PySem.PyData.int := rfl
  rw [e2, List.map_take] at e
  simp -dsimp -implicitDefEqProofs [d__law_deck, b__law_deck]
  rw [e]
  have e3 : deckOk (.own (((ns.map PySem.PyData.int).take 63).reverse)) = some () := by
    rw [← List.map_take]
    refine deckOk_own _ (ns.take 63).reverse ?_ (by simp; omega)
    have := intsD_il (ns.take 63).reverse
    rw [← this]
    congr 1
    simp [il]
  have ec : compE (call P prim n k) [2] (.nm 2) .nil (.bi .int (.cons (.bor 2) .nil)) ((ns.map PySem.PyData.int).take 63) [some (.scr ns), some (.d (.int a')), none] = .ret ((ns.map PySem.PyData.int).take 63, [some (.scr ns), some (.d (.int a')), none]) := by
    rw [← List.map_take, compE_map (g := fun i : Int => .int i) (f := fun i => some (.int i)) (h := fun i hi => by simp -dsimp -implicitDefEqProofs [compStep, rdVar_eq])]
    simp
  have c0 : min 63 ns.length ≤ 16777216 := by omega
  simp -dsimp -implicitDefEqProofs [rdVar_eq, c0]
  rw [ec]
  simp -dsimp -implicitDefEqProofs [e3]
theorem atI_in {α : Type} (xs : List α) (r : Int) (h0 : 0 ≤ r) (h1 : r < xs.length) : ∃ x ∈ xs, L2.atI xs r = some x := by
  have h2 : r.toNat < xs.length := by omega
  refine ⟨xs[r.toNat], List.getElem_mem h2, ?_⟩
  unfold L2.atI L2.ixN
  rw [if_pos h0, if_pos h1]
  simp [h2]
theorem pick_all (xs : List D) (h : xs ≠ []) (hl : xs.length ≤ 16777216) : Gives (call P prim n (k + 2) f__law_pick [.deck, .d (.list xs)]) (fun v => ∃ x ∈ xs, v = .d x) := by
  rw [call_s (d := d__law_pick) (h := rfl), run_eq _ _ rfl]
  have hp : (0 : Int) < xs.length := by have := List.length_pos_iff.mpr h; omega
  simp -dsimp -implicitDefEqProofs [d__law_pick, b__law_pick, rdVar_eq]
  refine Ends.step (draw_all _ hp (by omega)) ?_
  rintro _ ⟨r, rfl, h0, h1⟩
  obtain ⟨x, hx, e⟩ := atI_in xs r h0 h1
  simp -dsimp -implicitDefEqProofs [e]
  exact hx
end K92
end

section
set_option linter.all false
set_option maxRecDepth 100000
open TP RR
namespace K92
variable {prim : Nat → List Vl → M Vl} {n k : Nat}
theorem low_at (hn : Fuel n) (t : Int) (d : Nat) (h0 : 0 < d) (h1 : d < 2 ^ 60) : call P prim n (k + 1) f__law_low [.d (.int t), .d (.int d)] = .ret (.d (fr (mkRat t d))) :=
  llow_eq hn t d h0 (Nat.lt_trans h1 (Nat.pow_lt_pow_right (by decide) (by decide)))
theorem low_int (hn : Fuel n) (t d : Int) (h0 : 0 < d) (h1 : d < 2 ^ 60) : call P prim n (k + 1) f__law_low [.d (.int t), .d (.int d)] = .ret (.d (fr (mkRat t d.toNat))) := by
  have := low_at (prim := prim) (k := k) hn t d.toNat (by omega) (by omega)
  rwa [Int.toNat_of_nonneg (by omega)] at this
theorem den_le {t : Int} {d : Nat} (hd : 0 < d) : (mkRat t d).den ≤ d := by
  rw [Rat.den_mkRat, if_neg (by omega)]
  exact Nat.div_le_self _ _
/-- a fraction in lowest numbers, by the one before -/
theorem mk_parts (t : Int) (d : Nat) (hd : 0 < d) : ∃ g : Nat, 0 < g ∧ t = g * (mkRat t d).num ∧ d = g * (mkRat t d).den := by
  refine ⟨d.gcd t.natAbs, Nat.gcd_pos_of_pos_left _ hd, ?_, ?_⟩
  · rw [Rat.num_mkRat, if_neg (by omega)]
    exact (Int.mul_ediv_cancel' (Int.ofNat_dvd_left.mpr (Nat.gcd_dvd_right _ _))).symm
  · rw [Rat.den_mkRat, if_neg (by omega)]
    exact (Nat.mul_div_cancel' (Nat.gcd_dvd_left _ _)).symm
theorem mk_share {t : Int} {d : Nat} (hd : 0 < d) (h0 : 0 ≤ t) (h1 : t ≤ d) : 0 ≤ (mkRat t d).num ∧ (mkRat t d).num ≤ (mkRat t d).den := by
  obtain ⟨g, hg, e1, e2⟩ := mk_parts t d hd
  generalize (mkRat t d).num = a at *
  generalize (mkRat t d).den = b at *
  have hg' : (0 : Int) < g := by omega
  constructor
  · exact Int.not_lt.mp fun h => by
      have := Int.mul_neg_of_pos_of_neg hg' h
      omega
  · refine Int.le_of_mul_le_mul_left ?_ hg'
    rw [← e1]
    rw [e2] at h1
    rwa [Int.natCast_mul] at h1
theorem mk_bias {t : Int} {d : Nat} (hd : 0 < d) (h0 : 0 < t) (h1 : t < d) : 0 < (mkRat t d).num ∧ (mkRat t d).num < (mkRat t d).den := by
  obtain ⟨g, hg, e1, e2⟩ := mk_parts t d hd
  generalize (mkRat t d).num = a at *
  generalize (mkRat t d).den = b at *
  have hg' : (0 : Int) < g := by omega
  constructor
  · exact Int.not_le.mp fun h => by
      have := Int.mul_nonpos_of_nonneg_of_nonpos (Int.le_of_lt hg') h
      omega
  · refine Int.lt_of_mul_lt_mul_left ?_ (Int.le_of_lt hg')
    rw [← e1]
    rw [e2] at h1
    rwa [Int.natCast_mul] at h1
/-- drawn fractions -/
structure Q0 (q : Rat) : Prop where
  d : q.den ≤ 1000000000000
  n : q.num.natAbs ≤ 1000000000000
structure Qs (q : Rat) : Prop where
  d : q.den ≤ 1000
  n0 : 0 ≤ q.num
  n1 : q.num ≤ q.den
structure Qb (q : Rat) : Prop where
  d : q.den ≤ 1000
  n0 : 0 < q.num
  n1 : q.num < q.den
theorem any_all (hn : Fuel n) (top bottom : Int) (h0 : 0 < top) (h1 : top ≤ 1000000000000) (h2 : 0 < bottom) (h3 : bottom ≤ 1000000000000) : Gives (call P prim n (k + 2) f__law_any_fraction [.deck, .d (.int top), .d (.int bottom)]) (fun v => ∃ q, v = .d (fr q) ∧ Q0 q) := by
  rw [call_s (d := d__law_any_fraction) (h := rfl), run_eq _ _ rfl]
  simp -dsimp -implicitDefEqProofs [d__law_any_fraction, b__law_any_fraction, rdVar_eq]
  refine Ends.step (draw_all _ h2 (by omega)) ?_
  rintro _ ⟨r, rfl, r0, r1⟩
  have g1 : big1 2 top := b1_l (by decide)
  simp -dsimp -implicitDefEqProofs [rdVar_eq, g1]
  refine Ends.step (draw_all (2 * top + 1) (by omega) (by omega)) ?_
  rintro _ ⟨t, rfl, t0, t1⟩
  have e := low_int (prim := prim) (k := k) hn (t - top) (1 + r) (by omega) (by omega)
  simp -dsimp -implicitDefEqProofs [rdVar_eq, e]
  refine ⟨_, rfl, ?_, ?_⟩
  · have := den_le (t := t - top) (d := (1 + r).toNat) (by omega)
    omega
  · have := num_le (t := t - top) (d := (1 + r).toNat) (by omega)
    omega
theorem bias_all (hn : Fuel n) (bottom : Int) (h2 : 2 ≤ bottom) (h3 : bottom ≤ 1000) : Gives (call P prim n (k + 2) f__law_bias [.deck, .d (.int bottom)]) (fun v => ∃ q, v = .d (fr q) ∧ Qb q) := by
  rw [call_s (d := d__law_bias) (h := rfl), run_eq _ _ rfl]
  simp -dsimp -implicitDefEqProofs [d__law_bias, b__law_bias, rdVar_eq]
  refine Ends.step (draw_all (bottom - 1) (by omega) (by omega)) ?_
  rintro _ ⟨r, rfl, r0, r1⟩
  simp -dsimp -implicitDefEqProofs [rdVar_eq]
  refine Ends.step (draw_all (2 + r - 1) (by omega) (by omega)) ?_
  rintro _ ⟨t, rfl, t0, t1⟩
  have e := low_int (prim := prim) (k := k) hn (1 + t) (2 + r) (by omega) (by omega)
  simp -dsimp -implicitDefEqProofs [rdVar_eq, e]
  obtain ⟨a, b⟩ := mk_bias (t := 1 + t) (d := (2 + r).toNat) (by omega) (by omega) (by omega)
  refine ⟨_, rfl, ?_, a, b⟩
  have := den_le (t := 1 + t) (d := (2 + r).toNat) (by omega)
  omega
theorem share_all (hn : Fuel n) (bottom : Int) (h2 : 1 ≤ bottom) (h3 : bottom ≤ 1000) : Gives (call P prim n (k + 3) f__law_share [.deck, .d (.int bottom)]) (fun v => ∃ q, v = .d (fr q) ∧ Qs q) := by
  rw [call_s (d := d__law_share) (h := rfl), run_eq _ _ rfl]
  simp -dsimp -implicitDefEqProofs [d__law_share, b__law_share, rdVar_eq]
  refine Ends.step (draw_all bottom (by omega) (by omega)) ?_
  rintro _ ⟨r, rfl, r0, r1⟩
  have key : ∀ t : Int, 0 ≤ t → t < 1 + r + 1 → Qs (mkRat t (1 + r).toNat) ∧ call P prim n (k + 2) f__law_low [.d (.int t), .d (.int (1 + r))] = .ret (.d (fr (mkRat t (1 + r).toNat))) := fun t t0 t1 => by
    obtain ⟨a, b⟩ := mk_share (t := t) (d := (1 + r).toNat) (by omega) (by omega) (by omega)
    have := den_le (t := t) (d := (1 + r).toNat) (by omega)
    exact ⟨⟨by omega, a, b⟩, low_int (prim := prim) (k := k + 1) hn t (1 + r) (by omega) (by omega)⟩
  simp -dsimp -implicitDefEqProofs [rdVar_eq]
  refine Ends.step (draw_all (1 + r + 1) (by omega) (by omega)) ?_
  rintro _ ⟨t, rfl, t0, t1⟩
  obtain ⟨q1, e1⟩ := key t t0 t1
  simp -dsimp -implicitDefEqProofs [rdVar_eq, e1]
  refine Ends.step (draw_all (1 + r + 1) (by omega) (by omega)) ?_
  rintro _ ⟨u, rfl, u0, u1⟩
  obtain ⟨q2, e2⟩ := key u u0 u1
  simp -dsimp -implicitDefEqProofs [rdVar_eq, e2]
  refine Ends.step (draw_all (1 + r + 1) (by omega) (by omega)) ?_
  rintro _ ⟨w, rfl, w0, w1⟩
  obtain ⟨q3, e3⟩ := key w w0 w1
  simp -dsimp -implicitDefEqProofs [rdVar_eq, e3]
  refine Ends.step (pick_all _ (by simp) (by simp)) ?_
  rintro _ ⟨x, hx, rfl⟩
  simp -dsimp -implicitDefEqProofs
  simp only [List.mem_cons, List.not_mem_nil, or_false] at hx
  rcases hx with rfl | rfl | rfl | rfl | rfl | rfl
  · exact ⟨0, rfl, by decide, by decide, by decide⟩
  · exact ⟨1, rfl, by decide, by decide, by decide⟩
  · have e1 : (mkRat 1 2).num = 1 := by decide +kernel
    have e2 : (mkRat 1 2).den = 2 := by decide +kernel
    exact ⟨mkRat 1 2, by unfold fr; rw [e1, e2]; rfl, by rw [e2]; decide, by rw [e1]; decide, by rw [e1, e2]; decide⟩
  · exact ⟨_, rfl, q1⟩
  · exact ⟨_, rfl, q2⟩
  · exact ⟨_, rfl, q3⟩
end K92
end

section
set_option linter.all false
set_option maxRecDepth 100000
open TP RR
namespace K92
variable {prim : Nat → List Vl → M Vl} {n k : Nat}
def IL (Q : Rat → Prop) (m : Nat) (s0 : S) (r : List D) (s : S) (acc : List D) : Prop := ∃ qs, s = s0 ∧ acc = frs qs ∧ qs.length + r.length = m ∧ ∀ q ∈ qs, Q q
theorem frs_inv (Q : Rat → Prop) {G : G1} {own : List Nat} {t : Tg} {e : Ex} {s : S} (xs : List D) (h : ∀ x, x ∈ xs → Gives (compStep G own t .nil e x s) (fun r => r.2 = s ∧ ∃ q, r.1 = some (fr q) ∧ Q q)) : Gives (compE G own t .nil e xs s) (fun r => r.2 = s ∧ ∃ qs, r.1 = frs qs ∧ qs.length = xs.length ∧ ∀ q ∈ qs, Q q) := by
  refine Ends.imp (compE_inv (I := fun r st acc => (∀ x, x ∈ r → x ∈ xs) ∧ IL Q xs.length s r st acc) ⟨fun x hx => hx, [], rfl, rfl, by simp, by simp⟩ ?_) ?_
  · rintro x r st acc ⟨hm, qs, rfl, rfl, hl, hq⟩
    refine Ends.imp (h x (hm x (by simp))) ?_
    rintro ⟨o, st2⟩ ⟨h1, q, h2, h3⟩
    dsimp only at h1 h2 ⊢
    subst h1
    subst h2
    refine ⟨fun y hy => hm y (List.mem_cons_of_mem _ hy), qs ++ [q], rfl, by simp [frs, optL], by rw [List.length_append, List.length_singleton]; rw [List.length_cons] at hl; omega, ?_⟩
    intro y hy
    rcases List.mem_append.mp hy with hy | hy
    · exact hq y hy
    · simp at hy
      rw [hy]; exact h3
  · rintro r ⟨_, qs, h1, h2, h3, h4⟩
    exact ⟨h1, qs, h2, by simpa using h3, h4⟩
theorem poly_all (hn : Fuel n) (deg top bottom : Int) (d0 : 0 ≤ deg) (d1 : deg ≤ 8) (h0 : 0 < top) (h1 : top ≤ 1000000000000) (h2 : 0 < bottom) (h3 : bottom ≤ 1000000000000) : Gives (call P prim n (k + 3) f__law_poly [.deck, .d (.int deg), .d (.int top), .d (.int bottom)]) (fun v => ∃ as, v = .d (.tuple (frs as)) ∧ cutQ as = as ∧ as.length ≤ 9 ∧ ∀ q ∈ as, Q0 q) := by
  have er := rng_of (deg + 1) (by omega) (by omega)
  have el : (rngD 0 (deg + 1).toNat 1).length ≤ 16777216 := by rw [rng_len]; omega
  rw [call_s (d := d__law_poly) (h := rfl), run_eq _ _ rfl]
  simp -dsimp -implicitDefEqProofs [d__law_poly, b__law_poly, rdVar_eq, er, el]
  refine Ends.step (frs_inv Q0 (rngD 0 (deg + 1).toNat 1) ?_) ?_
  · intro x _
    simp -dsimp -implicitDefEqProofs [compStep, rdVar_eq]
    refine Ends.step (any_all hn top bottom h0 h1 h2 h3) ?_
    rintro _ ⟨q, rfl, hq⟩
    simp -dsimp -implicitDefEqProofs
    exact ⟨q, rfl, hq⟩
  · rintro ⟨r, s⟩ ⟨hs, qs, hr, hl, hq⟩
    dsimp only at hs hr
    subst hs
    subst hr
    rw [rng_len] at hl
    have ec := law_cut_eq (prim := prim) (n := n) (k := k + 1) hn qs (by omega)
    simp -dsimp -implicitDefEqProofs [rdVar_eq, ec]
    have := cut_len qs
    exact ⟨cutQ qs, rfl, cut_cut qs, by omega, fun q hq' => hq q (cut_mem hq')⟩
end K92
end

section
set_option linter.all false
set_option maxRecDepth 100000
open TP RR
namespace K92
variable {prim : Nat → List Vl → M Vl} {n k : Nat}
section
variable {L l N c : Nat} {as bs : List Rat} {x p : Rat}
/-- what all are over -/
def prodD : List Rat → Nat
  | [] => 1
  | b :: bs => b.den * prodD bs
theorem prodD_pos : ∀ bs : List Rat, 0 < prodD bs
  | [] => Nat.one_pos
  | b :: bs => Nat.mul_pos b.den_pos (prodD_pos bs)
theorem prodD_dvd : ∀ {bs : List Rat} {b : Rat}, b ∈ bs → b.den ∣ prodD bs
  | a :: bs, b, h => by
    rcases List.mem_cons.mp h with e | e
    · rw [e]; exact Nat.dvd_mul_right _ _
    · exact Nat.dvd_trans (prodD_dvd e) (Nat.dvd_mul_left _ _)
theorem prodD_le {m : Nat} : ∀ {bs : List Rat}, (∀ b ∈ bs, b.den ≤ m) → prodD bs ≤ m ^ bs.length
  | [], _ => Nat.le_refl _
  | a :: bs, h => by
    have h1 := prodD_le (m := m) (bs := bs) fun b hb => h b (List.mem_cons_of_mem _ hb)
    have h2 := h a (by simp)
    rw [List.length_cons, Nat.pow_succ, Nat.mul_comm]
    exact Nat.mul_le_mul h2 h1
theorem prodD_lt {m e t : Nat} (hm : m ≤ 2 ^ e) (h : ∀ b ∈ bs, b.den ≤ m) (hl : e * bs.length < t) : prodD bs < 2 ^ t := by
  have h1 := prodD_le h
  have h2 : m ^ bs.length ≤ (2 ^ e) ^ bs.length := Nat.pow_le_pow_left hm _
  rw [← Nat.pow_mul] at h2
  exact Nat.lt_of_le_of_lt (Nat.le_trans h1 h2) (Nat.pow_lt_pow_right (by decide) hl)
theorem prodD_dn {b : Rat} (h : b ∈ bs) : Dn (prodD bs) b := (Dn.self b).of_dvd (prodD_dvd h) (prodD_pos bs)
theorem small_sz {m : Nat} {q : Rat} (hd : q.den < 2 ^ 45) (hn : q.num.natAbs < 2 ^ 45) : Sz 50 q := ⟨Nat.lt_trans hd (Nat.pow_lt_pow_right (by decide) (by decide)), Nat.lt_trans hn (Nat.pow_lt_pow_right (by decide) (by decide))⟩
theorem small_fs {q : Rat} (hd : q.den < 2 ^ 45) (hn : q.num.natAbs < 2 ^ 45) : Fs q := by
  have := log_lt hd (by decide)
  have := log_lt hn (by decide)
  exact ⟨by omega, by omega⟩
theorem Qs.small {q : Rat} (h : Qs q) : q.den < 2 ^ 45 ∧ q.num.natAbs < 2 ^ 45 := by
  obtain ⟨h1, h2, h3⟩ := h
  omega
theorem Qb.small {q : Rat} (h : Qb q) : q.den < 2 ^ 45 ∧ q.num.natAbs < 2 ^ 45 := by
  obtain ⟨h1, h2, h3⟩ := h
  omega
theorem Q0.small {q : Rat} (h : Q0 q) : q.den < 2 ^ 45 ∧ q.num.natAbs < 2 ^ 45 := by
  obtain ⟨h1, h2⟩ := h
  omega
theorem Qb.bi {q : Rat} (h : Qb q) : Bi q.den q := by
  obtain ⟨s1, s2⟩ := h.small
  obtain ⟨h1, h2, h3⟩ := h
  have dq : Dn q.den (1 - q) := by
    have := ((Dn.int 1).of_dvd (Nat.one_dvd q.den) q.den_pos).sub (Dn.self q)
    exact this
  obtain ⟨z, hz⟩ := dq
  have e1 : (1 - q) = mkRat ((q.den : Int) - q.num) q.den := by
    rw [Rat.mkRat_eq_div, Rat.intCast_sub]
    have e2 : q = (q.num : Rat) / (q.den : Rat) := by rw [← Rat.mkRat_eq_div, Rat.mkRat_self]
    have e3 : (q.den : Rat) ≠ 0 := by
      intro e
      have : q.den = 0 := by exact_mod_cast e
      have := q.den_pos
      omega
    have e4 : (((q.den : Nat) : Int) : Rat) = ((q.den : Nat) : Rat) := rfl
    rw [e4]
    generalize hA : (q.num : Rat) = A at *
    generalize hB : ((q.den : Nat) : Rat) = B at *
    rw [e2]
    grind
  have n1 := num_le (t := (q.den : Int) - q.num) q.den_pos
  have n2 := den_le (t := (q.den : Int) - q.num) q.den_pos
  rw [← e1] at n1 n2
  exact ⟨q.den_pos, h1, Dn.self q, small_sz (m := 0) s1 s2, ⟨z, hz⟩, small_sz (m := 0) (by omega) (by omega)⟩
theorem fa_of (hN : N ≤ 40) (hl : bs.length = N + 1) (h : ∀ b ∈ bs, Qs b) : FA (prodD bs) 50 N bs ∧ prodD bs < 2 ^ 500 := by
  have hlt : prodD bs < 2 ^ 500 := prodD_lt (m := 1000) (e := 10) (by decide) (fun b hb => (h b hb).d) (by omega)
  refine ⟨⟨⟨prodD_pos bs, Nat.lt_trans hlt (Nat.pow_lt_pow_right (by decide) (by decide)), by decide, hl, hN, fun b hb => ⟨prodD_dn hb, ?_⟩⟩, fun b hb => ?_, fun b hb => ⟨(h b hb).n0, (h b hb).n1⟩⟩, hlt⟩
  · have := (h b hb).small
    exact small_sz (m := 0) this.1 this.2
  · have := (h b hb).small
    exact fs_shw (small_fs this.1 this.2)
/-! ### how great the numbers of a factory's polynomial are -/
def DB (L B : Nat) (q : Rat) : Prop := ∃ z : Int, q = (z : Rat) / (L : Rat) ∧ z.natAbs ≤ B
theorem db_sub {L B B' : Nat} {p q : Rat} (h : DB L B p) (g : DB L B' q) : DB L (B + B') (p - q) := by
  obtain ⟨z, rfl, hz⟩ := h
  obtain ⟨w, rfl, hw⟩ := g
  refine ⟨z - w, ?_, by have := Int.natAbs_sub_le z w; omega⟩
  rw [Rat.intCast_sub]
  grind
theorem db_int {L B : Nat} {q : Rat} (m : Nat) (h : DB L B q) : DB L (m * B) ((m : Rat) * q) := by
  obtain ⟨z, rfl, hz⟩ := h
  refine ⟨m * z, ?_, ?_⟩
  · rw [Rat.intCast_mul]
    have : (((m : Nat) : Int) : Rat) = (m : Rat) := rfl
    rw [this]
    grind
  · rw [Int.natAbs_mul, Int.natAbs_natCast]
    exact Nat.mul_le_mul_left m hz
theorem db_num {L B : Nat} {q : Rat} (hL : 0 < L) (h : DB L B q) : q.num.natAbs ≤ B ∧ q.den ≤ L := by
  obtain ⟨z, e, hz⟩ := h
  have e2 : q = mkRat z L := by rw [e, Rat.mkRat_eq_div]
  have h1 := num_le (t := z) hL
  have h2 := den_le (t := z) hL
  rw [← e2] at h1 h2
  omega
theorem db_base {b : Rat} (hb : b ∈ bs) (h0 : 0 ≤ b.num) (h1 : b.num ≤ b.den) : DB (prodD bs) (prodD bs) b := by
  obtain ⟨c, hc⟩ := prodD_dvd hb
  refine ⟨b.num * c, ?_, ?_⟩
  · have e2 : b = (b.num : Rat) / (b.den : Rat) := by rw [← Rat.mkRat_eq_div, Rat.mkRat_self]
    have hp := prodD_pos bs
    have e3 : (b.den : Rat) ≠ 0 := by
      intro e
      have : b.den = 0 := by exact_mod_cast e
      have := b.den_pos
      omega
    have e4 : (c : Rat) ≠ 0 := by
      intro e
      have : c = 0 := by exact_mod_cast e
      subst this
      omega
    rw [Rat.intCast_mul, hc, Rat.natCast_mul]
    have e5 : (((c : Nat) : Int) : Rat) = (c : Rat) := rfl
    rw [e5]
    generalize hA : (b.num : Rat) = A at *
    generalize hB : ((b.den : Nat) : Rat) = B at *
    rw [e2]
    grind
  · rw [Int.natAbs_mul, Int.natAbs_natCast]
    have : b.num.natAbs ≤ b.den := by omega
    calc b.num.natAbs * c ≤ b.den * c := Nat.mul_le_mul_right c this
      _ = prodD bs := hc.symm
theorem db_it (hl : bs.length = N + 1) (h : ∀ b ∈ bs, Qs b) : ∀ (j i : Nat), i + j ≤ N → DB (prodD bs) (2 ^ j * prodD bs) (It j (sq bs) i)
  | 0, i, hi => by
    have hb := List.mem_of_getElem? (sq_get (bs := bs) (i := i) (by omega))
    have := db_base hb (h _ hb).n0 (h _ hb).n1
    rwa [Nat.pow_zero, Nat.one_mul]
  | j + 1, i, hi => by
    have e : It (j + 1) (sq bs) i = It j (sq bs) (i + 1) - It j (sq bs) i := by rw [RR.It, It_Dl]; rfl
    have := db_sub (db_it hl h j (i + 1) (by omega)) (db_it hl h j i (by omega))
    rw [e, Nat.pow_succ]
    have e2 : 2 ^ j * 2 * prodD bs = 2 ^ j * prodD bs + 2 ^ j * prodD bs := by
      rw [Nat.mul_right_comm, Nat.mul_two]
    rw [e2]
    exact this
theorem poly_shw (hN : N ≤ 40) (hl : bs.length = N + 1) (h : ∀ b ∈ bs, Qs b) : ∀ a ∈ cutQ (polyN N bs (N + 1)), Shw a := by
  intro a ha
  obtain ⟨i, hi, rfl⟩ := List.mem_map.mp (cut_mem ha)
  have hi' := (List.mem_range'_1.mp hi).2
  have h1 := db_int (choose N i) (db_it hl h i 0 (by omega))
  obtain ⟨n1, d1⟩ := db_num (prodD_pos bs) h1
  have hlt := (fa_of hN hl h).2
  have h2 : choose N i * (2 ^ i * prodD bs) ≤ 2 ^ 41 * (2 ^ 40 * 2 ^ 500) := Nat.mul_le_mul (Nat.le_of_lt (choose_lt hN)) (Nat.mul_le_mul (Nat.pow_le_pow_right (by decide) (by omega)) (Nat.le_of_lt hlt))
  have h3 : 2 ^ 41 * (2 ^ 40 * 2 ^ 500) < 2 ^ SL := by
    rw [← Nat.pow_add, ← Nat.pow_add]
    exact Nat.pow_lt_pow_right (by decide) (by decide)
  exact ⟨Nat.lt_of_le_of_lt (Nat.le_trans n1 h2) h3, Nat.lt_trans (Nat.lt_of_le_of_lt d1 hlt) (Nat.pow_lt_pow_right (by decide) (by decide))⟩
theorem PN_le : 50 + (50 + 40 * (LD + 1)) ≤ 10000000 := by decide
/-- a factory's polynomial can have its numbers told -/
theorem poly_pn (hN : N ≤ 40) (hl : bs.length = N + 1) (h : ∀ b ∈ bs, Qs b) (h9 : (cutQ (polyN N bs (N + 1))).length ≤ 9) : Pn (prodD bs) (50 + (50 + 40 * (LD + 1))) N (cutQ (polyN N bs (N + 1))) where
  L0 := prodD_pos bs
  L1 := Nat.lt_trans (fa_of hN hl h).2 (Nat.pow_lt_pow_right (by decide) (by decide))
  l1 := PN_le
  len := h9
  deg := poly_len N bs
  N40 := hN
  row := poly_row (fa_of hN hl h).1.nu
theorem cL_lt (hN : N ≤ 40) (hl : bs.length = N + 1) (h : ∀ b ∈ bs, Qs b) {c : Nat} (hc : c ≤ 1000) {j : Nat} (hj : j ≤ 41) : prodD bs * c ^ j < 2 ^ LB := by
  have h1 := (fa_of hN hl h).2
  have h2 := pow_lt hc hj
  have h3 : prodD bs * c ^ j < 2 ^ 500 * 2 ^ 1000 := Nat.mul_lt_mul'' h1 h2
  have h4 : 2 ^ 500 * 2 ^ 1000 < 2 ^ LB := by
    rw [← Nat.pow_add]
    exact Nat.pow_lt_pow_right (by decide) (by decide)
  exact Nat.lt_trans h3 h4
end
end K92
end

section
set_option linter.all false
set_option maxRecDepth 100000
open TP RR
namespace K92
variable {prim : Nat → List Vl → M Vl} {n k : Nat}
section
variable {L l N c : Nat} {as bs : List Rat} {x p : Rat}
def bF : Sts := (.cons (.asg 5 (.call f__law_bias (.cons (.var 0) (.cons (.var 4) .nil))))
  (.cons (.asg 6 (.call f__law_chance (.cons (.var 1) (.cons (.var 5) .nil))))
  (.cons (.ite (.or (.not (.call f__law_same (.cons (.lst (.cons (.call f_chance_at (.cons (.var 1) (.cons (.var 5) .nil))) (.cons (.callK f_chance_at .nil (.cons (.var 5) (.cons (.var 1) .nil)) [1, 0]) .nil))) (.cons (.lst (.cons (.var 6) (.cons (.var 6) .nil))) .nil)))) (.cmp .ne (.call f__law_value (.cons (.var 2) (.cons (.var 5) .nil))) (.bor 6)))
  (.cons (.ret (.bl false))
  .nil)
  .nil)
  .nil)))
/-- the state of the loop over biases -/
def SF (bs : List Rat) (N : Nat) (kept : Vl) (s : S) : Prop := ∃ s4 s5 s6, s = [some .deck, some (.d (.tuple (frs bs))), some (.d (.tuple (frs (cutQ (polyN N bs (N + 1)))))), some kept, s4, s5, s6]
def IF (bs : List Rat) (N : Nat) (kept : Vl) (r : List D) (s : S) : Prop := (∀ x ∈ r, ∃ b : Int, x = .int b ∧ 2 ≤ b ∧ b ≤ 1000) ∧ SF bs N kept s
def QF (bs : List Rat) (N : Nat) (kept : Vl) (fl : Fl) : Prop := ∃ s, fl = .nx s ∧ SF bs N kept s
theorem ne_fr (q : Rat) : cmpD .ne (fr q) (fr q) = some false := by
  rw [cmp_neG (by rw [lay_fr]; rfl), eqv_fr, decide_eq_true rfl]
  rfl
theorem bias_step (hn : Fuel n) (hN : N ≤ 40) (hl : bs.length = N + 1) (h : ∀ b ∈ bs, Qs b) (kept : Vl) (b : Int) (h2 : 2 ≤ b) (h3 : b ≤ 1000) (r : List D) (hr : ∀ x ∈ r, ∃ b : Int, x = .int b ∧ 2 ≤ b ∧ b ≤ 1000) (s5 s6 : Option Vl) :
    Gives (execs n (call P prim n (k + 6)) bF [some .deck, some (.d (.tuple (frs bs))), some (.d (.tuple (frs (cutQ (polyN N bs (N + 1)))))), some kept, some (.d (.int b)), s5, s6]) (Turn (IF bs N kept r) (QF bs N kept)) := by
  obtain ⟨fa, hlt⟩ := fa_of hN hl h
  simp -dsimp -implicitDefEqProofs [bF, rdVar_eq]
  refine Ends.step (bias_all (k := k + 4) hn b h2 h3) ?_
  rintro _ ⟨q, rfl, hq⟩
  have hb := hq.bi
  have c1 := hb.c1
  have e1 := law_chance_eq (prim := prim) (k := k + 1) hn fa.nu hb (cL_lt hN hl h c1 (by omega))
  have hs := hq.small
  have e2 := chance_at_eq (prim := prim) (k := k) hn fa hb (cL_lt hN hl h c1 (by omega)) (by decide) (fs_shw (small_fs hs.1 hs.2)) hq.n0 hq.n1
  have e3 := (poly_value (prim := prim) (k := k + 2) hn fa.nu hb (cL_lt hN hl h c1 (by omega)) (by decide)).2
  generalize val (cutQ (polyN N bs (N + 1))) q = v at *
  have s1 : call P prim n (k + 6) f__law_same [.d (.list [fr v, fr v]), .d (.list [fr v, fr v])] = .ret (.d (.bool true)) := same_eq (prim := prim) (k := k + 5) hn (.f2 v) (show 7 ≤ 10000 by decide)
  have e4 := ne_fr v
  simp -dsimp -implicitDefEqProofs [rdVar_eq, e1, e2, e3, e4, s1, ord2]
  exact ⟨hr, _, _, _, rfl⟩
theorem repr_frs (h : ∀ a ∈ bs, Fs a) (hl : bs.length ≤ 41) : ((PySem.PyData.tuple (frs bs)).showable && decide ((PySem.PyData.tuple (frs bs)).shown.length ≤ 16777216) && decide ((PySem.PyData.tuple (frs bs)).depth ≤ 64)) = true :=
  (fine_frs h).repr (by omega) (by omega)
theorem is_factory_right_all (hn : Fuel n) (hN : N ≤ 40) (hl : bs.length = N + 1) (h : ∀ b ∈ bs, Qs b) : Gives (call P prim n (k + 7) f__law_is_factory_right [.deck, .d (.tuple (frs bs))]) (fun v => v = .d (.bool true)) := by
  obtain ⟨fa, hlt⟩ := fa_of hN hl h
  have e1 := law_polynomial_eq (prim := prim) (k := k + 1) hn fa.nu
  have e2 := polynomial_of_eq (prim := prim) (k := k) hn fa
  have e6 := repr_frs (bs := bs) (fun b hb => small_fs (h b hb).small.1 (h b hb).small.2) (by omega)
  have hpl := poly_len N bs
  have e7 : ((frs bs).length : Int) - 1 = N := by simp only [frs, List.length_map, hl]; omega
  have e8 : (frs (cutQ (polyN N bs (N + 1)))).length = (cutQ (polyN N bs (N + 1))).length := by simp [frs]
  have sp : call P prim n (k + 6) f__law_same [.d (.list [.tuple (frs (cutQ (polyN N bs (N + 1)))), .tuple (frs (cutQ (polyN N bs (N + 1))))]), .d (.list [.tuple (frs (cutQ (polyN N bs (N + 1)))), .tuple (frs (cutQ (polyN N bs (N + 1))))])] = .ret (.d (.bool true)) := same_eq (prim := prim) (k := k + 5) hn (.s2 (cutQ (polyN N bs (N + 1)))) (by
    simp only [Tt.cost]
    omega)
  have sb : call P prim n (k + 6) f__law_same [.d (.tuple (frs bs)), .d (.tuple (frs bs))] = .ret (.d (.bool true)) := same_eq (prim := prim) (k := k + 5) hn (.s bs) (by
    simp only [Tt.cost]
    omega)
  rw [call_s (d := d__law_is_factory_right) (h := rfl), run_eq _ _ rfl]
  simp -dsimp -implicitDefEqProofs [d__law_is_factory_right, b__law_is_factory_right, rdVar_eq, e1, e2, e6, sp, ord1]
  refine Ends.step (forE_all (I := IF bs N (.d (.str (PySem.PyData.tuple (frs bs)).shown))) (Q := QF bs N (.d (.str (PySem.PyData.tuple (frs bs)).shown))) _ _ ?_ ?_ ?_) ?_
  · refine ⟨?_, _, _, _, rfl⟩
    intro x hx
    simp only [List.mem_cons, List.not_mem_nil, or_false] at hx
    rcases hx with rfl | rfl | rfl
    · exact ⟨_, rfl, by decide, by decide⟩
    · exact ⟨_, rfl, by decide, by decide⟩
    · exact ⟨_, rfl, by decide, by decide⟩
  · rintro x r s ⟨hx, s4, s5, s6, hs⟩
    subst hs
    obtain ⟨b, rfl, h2, h3⟩ := hx x (by simp)
    refine Ends.step (P' := fun s1 => s1 = [some .deck, some (.d (.tuple (frs bs))), some (.d (.tuple (frs (cutQ (polyN N bs (N + 1)))))), some (.d (.str (PySem.PyData.tuple (frs bs)).shown)), some (.d (.int b)), s5, s6]) (Ends.eq rfl rfl) ?_
    rintro _ rfl
    exact bias_step hn hN hl h _ b h2 h3 r (fun y hy => hx y (List.mem_cons_of_mem _ hy)) s5 s6
  · rintro s ⟨_, hs⟩
    exact ⟨s, rfl, hs⟩
  · rintro fl ⟨s, hfl, s4, s5, s6, hs⟩
    subst hfl
    subst hs
    by_cases h9 : (cutQ (polyN N bs (N + 1))).length ≤ 9
    · have h9' : ((cutQ (polyN N bs (N + 1))).length : Int) < 10 := by omega
      have en := numbers_of_eq (prim := prim) (k := k) hn (poly_pn hN hl h h9) (poly_shw hN hl h) (cut_cut _)
      rw [nums_poly hl] at en
      simp -dsimp -implicitDefEqProofs [rdVar_eq, e6, e7, e8, h9', en, sb]
    · have h9' : ¬ ((cutQ (polyN N bs (N + 1))).length : Int) < 10 := by omega
      simp -dsimp -implicitDefEqProofs [rdVar_eq, e6, e7, e8, h9']
end
end K92
end

section
set_option linter.all false
set_option maxRecDepth 100000
open TP RR
namespace K92
variable {prim : Nat → List Vl → M Vl} {n k : Nat}
section
variable {L l N c : Nat} {as bs : List Rat} {x p : Rat}
theorem px_of (h1 : as.length ≤ 9) (h2 : cutQ as = as) (h : ∀ a ∈ as, Q0 a) (hx : Q0 x) : PX (prodD as) 50 x.den as x ∧ prodD as < 2 ^ 500 := by
  have hlt : prodD as < 2 ^ 500 := prodD_lt (m := 1000000000000) (e := 40) (by decide) (fun b hb => (h b hb).d) (by omega)
  have hxs := hx.small
  have hc : x.den ^ as.length < 2 ^ 500 := by
    have h3 : x.den ≤ 2 ^ 40 := Nat.le_trans hx.d (by decide)
    have h4 : x.den ^ as.length ≤ (2 ^ 40) ^ as.length := Nat.pow_le_pow_left h3 _
    rw [← Nat.pow_mul] at h4
    exact Nat.lt_of_le_of_lt h4 (Nat.pow_lt_pow_right (by decide) (by omega))
  refine ⟨⟨prodD_pos as, x.den_pos, by decide, h1, fun b hb => ⟨prodD_dn hb, ?_⟩, Dn.self x, small_sz (m := 0) hxs.1 hxs.2, ?_, h2, fun b hb => ?_, fs_shw (small_fs hxs.1 hxs.2)⟩, hlt⟩
  · have := (h b hb).small
    exact small_sz (m := 0) this.1 this.2
  · have h5 : prodD as * x.den ^ as.length < 2 ^ 500 * 2 ^ 500 := Nat.mul_lt_mul'' hlt hc
    have h6 : 2 ^ 500 * 2 ^ 500 < 2 ^ LD := by
      rw [← Nat.pow_add]
      exact Nat.pow_lt_pow_right (by decide) (by decide)
    exact Nat.lt_trans h5 h6
  · have := (h b hb).small
    exact fs_shw (small_fs this.1 this.2)
theorem poly_right (hn : Fuel n) (h1 : as.length ≤ 9) (h2 : cutQ as = as) (h : ∀ a ∈ as, Q0 a) (hx : Q0 x) (h3 : as.length ≤ N + 1) (hN : N ≤ 40) : call P prim n (k + 7) f__law_is_poly_right [.d (.tuple (frs as)), .d (fr x), .d (.int N)] = .ret (.d (.bool true)) := by
  obtain ⟨px, hlt⟩ := px_of h1 h2 h hx
  have hxs := hx.small
  refine is_poly_right_eq hn px ⟨px.L0, Nat.lt_trans hlt (Nat.pow_lt_pow_right (by decide) (by decide)), px.l1, h1, h3, hN, px.row⟩ (fun a ha => ?_) (small_fs hxs.1 hxs.2)
  have := (h a ha).small
  exact small_fs this.1 this.2
theorem poly_rightI (hn : Fuel n) (h1 : as.length ≤ 9) (h2 : cutQ as = as) (h : ∀ a ∈ as, Q0 a) (hx : Q0 x) (m : Int) (h3 : (as.length : Int) ≤ m + 1) (h0 : 0 ≤ m) (hN : m ≤ 40) : call P prim n (k + 7) f__law_is_poly_right [.d (.tuple (frs as)), .d (fr x), .d (.int m)] = .ret (.d (.bool true)) := by
  have := poly_right (prim := prim) (k := k) (N := m.toNat) hn h1 h2 h hx (by omega) (by omega)
  rwa [Int.toNat_of_nonneg h0] at this
def bT : Sts := (.cons (.asg 3 (.call f__law_draw (.cons (.var 1) (.cons (.int 9) .nil))))
  (.cons (.asg 4 (.call f__law_poly (.cons (.var 1) (.cons (.var 3) (.cons (.call f__law_pick (.cons (.var 1) (.cons (.lst (.cons (.int 1) (.cons (.int 9) (.cons (.int 1000) (.cons (.bin .pow (.int 10) (.int 12)) .nil))))) .nil))) (.cons (.call f__law_pick (.cons (.var 1) (.cons (.lst (.cons (.int 1) (.cons (.int 6) (.cons (.int 1000) (.cons (.bin .pow (.int 10) (.int 12)) .nil))))) .nil))) .nil))))))
  (.cons (.asg 5 (.call f__law_pick (.cons (.var 1) (.cons (.lst (.cons (.tup (.cons (.int 0) (.cons (.int 1) .nil))) (.cons (.tup (.cons (.int 1) (.cons (.int 1) .nil))) (.cons (.call f__law_any_fraction (.cons (.var 1) (.cons (.int 9) (.cons (.int 9) .nil)))) (.cons (.call f__law_any_fraction (.cons (.var 1) (.cons (.bin .pow (.int 10) (.int 12)) (.cons (.bin .pow (.int 10) (.int 12)) .nil)))) (.cons (.call f__law_bias (.cons (.var 1) (.cons (.int 12) .nil))) .nil)))))) .nil))))
  (.cons (.asg 6 (.bi .max2 (.cons (.int 0) (.cons (.bin .sub (.bi .len (.cons (.bor 4) .nil)) (.int 1)) .nil))))
  (.cons (.asg 6 (.ife (.cmp .gt (.call f__law_draw (.cons (.var 1) (.cons (.int 8) .nil))) (.int 0)) (.call f__law_pick (.cons (.var 1) (.cons (.lst (.cons (.var 6) (.cons (.bi .min2 (.cons (.int 40) (.cons (.bin .add (.bor 6) (.call f__law_draw (.cons (.var 1) (.cons (.int 6) .nil)))) .nil))) .nil))) .nil))) (.int 40)))
  (.cons (.ite (.not (.call f__law_is_poly_right (.cons (.var 4) (.cons (.var 5) (.cons (.var 6) .nil)))))
  (.cons (.ret (.bl false))
  .nil)
  .nil)
  .nil))))))
def ST (ns : List Int) (s : S) : Prop := ∃ s2 s3 s4 s5 s6, s = [some (.scr ns), some .deck, s2, s3, s4, s5, s6, none, none, none]
def IT (ns : List Int) (r : List D) (s : S) : Prop := ST ns s
def QT (ns : List Int) (fl : Fl) : Prop := ∃ s, fl = .nx s ∧ ST ns s
theorem pow_e : binD .pow (.int 10) (.int 12) = some (.d (.int 1000000000000)) := by first | rfl | simp
theorem turn_step (hn : Fuel n) (ns : List Int) (r : List D) (s2 s3 s4 s5 s6 : Option Vl) :
    Gives (execs n (call P prim n (k + 7)) bT [some (.scr ns), some .deck, s2, s3, s4, s5, s6, none, none, none]) (Turn (IT ns r) (QT ns)) := by
  have pe := pow_e
  simp -dsimp -implicitDefEqProofs [bT, rdVar_eq]
  refine Ends.step (draw_all 9 (by decide) (by decide)) ?_
  rintro _ ⟨dg, rfl, dg0, dg1⟩
  simp -dsimp -implicitDefEqProofs [rdVar_eq, pe]
  refine Ends.step (pick_all (k := k + 5) _ (by simp) (by simp)) ?_
  rintro _ ⟨x1, hx1, rfl⟩
  have ht : ∃ t : Int, x1 = .int t ∧ 0 < t ∧ t ≤ 1000000000000 := by
    simp only [List.mem_cons, List.not_mem_nil, or_false] at hx1
    rcases hx1 with rfl | rfl | rfl | rfl <;> exact ⟨_, rfl, by decide, by decide⟩
  obtain ⟨t, rfl, t0, t1⟩ := ht
  simp -dsimp -implicitDefEqProofs [rdVar_eq, pe]
  refine Ends.step (pick_all (k := k + 5) _ (by simp) (by simp)) ?_
  rintro _ ⟨x2, hx2, rfl⟩
  have hu : ∃ t : Int, x2 = .int t ∧ 0 < t ∧ t ≤ 1000000000000 := by
    simp only [List.mem_cons, List.not_mem_nil, or_false] at hx2
    rcases hx2 with rfl | rfl | rfl | rfl <;> exact ⟨_, rfl, by decide, by decide⟩
  obtain ⟨u, rfl, u0, u1⟩ := hu
  simp -dsimp -implicitDefEqProofs [rdVar_eq, pe]
  refine Ends.step (poly_all (k := k + 4) hn dg t u dg0 (by omega) t0 t1 u0 u1) ?_
  rintro _ ⟨as, rfl, a1, a2, a3⟩
  simp -dsimp -implicitDefEqProofs [rdVar_eq, pe]
  refine Ends.step (any_all (k := k + 5) hn 9 9 (by decide) (by decide) (by decide) (by decide)) ?_
  rintro _ ⟨q1, rfl, hq1⟩
  simp -dsimp -implicitDefEqProofs [rdVar_eq, pe]
  refine Ends.step (any_all (k := k + 5) hn 1000000000000 1000000000000 (by decide) (by decide) (by decide) (by decide)) ?_
  rintro _ ⟨q2, rfl, hq2⟩
  simp -dsimp -implicitDefEqProofs [rdVar_eq, pe]
  refine Ends.step (bias_all (k := k + 5) hn 12 (by decide) (by decide)) ?_
  rintro _ ⟨q3, rfl, hq3⟩
  simp -dsimp -implicitDefEqProofs [rdVar_eq, pe]
  refine Ends.step (pick_all (k := k + 5) _ (by simp) (by simp)) ?_
  rintro _ ⟨x3, hx3, rfl⟩
  have hv : ∃ x : Rat, x3 = fr x ∧ Q0 x := by
    simp only [List.mem_cons, List.not_mem_nil, or_false] at hx3
    rcases hx3 with rfl | rfl | rfl | rfl | rfl
    · exact ⟨0, rfl, by decide, by decide⟩
    · exact ⟨1, rfl, by decide, by decide⟩
    · exact ⟨q1, rfl, hq1⟩
    · exact ⟨q2, rfl, hq2⟩
    · exact ⟨q3, rfl, by have := hq3.d; omega, by have := hq3.d; have := hq3.n0; have := hq3.n1; omega⟩
  obtain ⟨x, rfl, hx⟩ := hv
  have el : (frs as).length = as.length := by simp [frs]
  simp -dsimp -implicitDefEqProofs [rdVar_eq, pe, el]
  refine Ends.step (draw_all (k := k + 6) 8 (by decide) (by decide)) ?_
  rintro _ ⟨w, rfl, w0, w1⟩
  by_cases hw : 0 < w
  · have hm : (if (1 : Int) < as.length then (as.length : Int) - 1 else 0) = ((as.length - 1 : Nat) : Int) := by split <;> omega
    simp -dsimp -implicitDefEqProofs [rdVar_eq, hw, hm]
    refine Ends.step (draw_all (k := k + 6) 6 (by decide) (by decide)) ?_
    rintro _ ⟨z, rfl, z0, z1⟩
    simp -dsimp -implicitDefEqProofs [rdVar_eq]
    refine Ends.step (pick_all (k := k + 5) _ (by simp) (by simp)) ?_
    rintro _ ⟨x4, hx4, rfl⟩
    have hm4 : ∃ m : Int, x4 = .int m ∧ (as.length : Int) ≤ m + 1 ∧ 0 ≤ m ∧ m ≤ 40 := by
      simp only [List.mem_cons, List.not_mem_nil, or_false] at hx4
      rcases hx4 with rfl | rfl
      · exact ⟨_, rfl, by omega, by omega, by omega⟩
      · refine ⟨_, rfl, ?_, ?_, ?_⟩ <;> split <;> omega
    obtain ⟨m, rfl, m0, m1, m2⟩ := hm4
    have e := poly_rightI (prim := prim) (k := k) hn a2 a1 a3 hx m m0 m1 m2
    simp -dsimp -implicitDefEqProofs [rdVar_eq, e]
    exact ⟨_, _, _, _, _, rfl⟩
  · have e := poly_rightI (prim := prim) (k := k) hn a2 a1 a3 hx 40 (by omega) (by decide) (by decide)
    simp -dsimp -implicitDefEqProofs [rdVar_eq, hw, e]
    exact ⟨_, _, _, _, _, rfl⟩
theorem law_all (hn : Fuel n) (ns : List Int) : Gives (call P prim n (k + 8) f_law [.scr ns]) (fun v => v = .d (.bool true)) := by
  have e2 : rng1D (.int 2) = some (rngD 0 2 1) := rng_of 2 (by decide) (by decide)
  rw [call_s (d := d_law) (h := rfl), run_eq _ _ rfl]
  simp -dsimp -implicitDefEqProofs [d_law, b_law, rdVar_eq]
  refine Ends.step (deck_all (k := k + 6) ns 19423092) ?_
  rintro _ rfl
  simp -dsimp -implicitDefEqProofs [rdVar_eq, e2]
  refine Ends.step (forE_all (I := IT ns) (Q := QT ns) _ _ ?_ ?_ ?_) ?_
  · exact ⟨_, _, _, _, _, rfl⟩
  · rintro x r s ⟨s2, s3, s4, s5, s6, hs⟩
    subst hs
    refine Ends.step (P' := fun s1 => s1 = [some (.scr ns), some .deck, some (.d x), s3, s4, s5, s6, none, none, none]) (Ends.eq rfl rfl) ?_
    rintro _ rfl
    exact turn_step hn ns r _ s3 s4 s5 s6
  · rintro s hs
    exact ⟨s, rfl, hs⟩
  · rintro fl ⟨s, hfl, s2, s3, s4, s5, s6, hs⟩
    subst hfl
    subst hs
    simp -dsimp -implicitDefEqProofs [rdVar_eq]
    refine Ends.step (draw_all (k := k + 6) 12 (by decide) (by decide)) ?_
    rintro _ ⟨w, rfl, w0, w1⟩
    by_cases hw : 0 < w
    · simp -dsimp -implicitDefEqProofs [rdVar_eq, hw]
      refine Ends.step (pick_all (k := k + 5) _ (by simp) (by simp)) ?_
      rintro _ ⟨x4, hx4, rfl⟩
      have hm4 : ∃ m : Int, x4 = .int m ∧ 1 ≤ m ∧ m ≤ 41 := by
        simp only [List.mem_cons, List.not_mem_nil, or_false] at hx4
        rcases hx4 with rfl | rfl | rfl | rfl | rfl | rfl <;> exact ⟨_, rfl, by decide, by decide⟩
      obtain ⟨m, rfl, m0, m1⟩ := hm4
      have er := rng_of m (by omega) (by omega)
      have el : (rngD 0 m.toNat 1).length ≤ 16777216 := by rw [rng_len]; omega
      simp -dsimp -implicitDefEqProofs [rdVar_eq]
      refine Ends.step (pick_all (k := k + 5) _ (by simp) (by simp)) ?_
      rintro _ ⟨x1, hx1, rfl⟩
      have ht : ∃ t : Int, x1 = .int t ∧ 1 ≤ t ∧ t ≤ 1000 := by
        simp only [List.mem_cons, List.not_mem_nil, or_false] at hx1
        rcases hx1 with rfl | rfl | rfl | rfl <;> exact ⟨_, rfl, by decide, by decide⟩
      obtain ⟨t, rfl, t0, t1⟩ := ht
      simp -dsimp -implicitDefEqProofs [rdVar_eq, er, el]
      refine Ends.step (frs_inv Qs (rngD 0 m.toNat 1) ?_) ?_
      · intro x _
        simp -dsimp -implicitDefEqProofs [compStep, rdVar_eq]
        refine Ends.step (share_all (k := k + 4) hn t t0 t1) ?_
        rintro _ ⟨q, rfl, hq⟩
        simp -dsimp -implicitDefEqProofs
        exact ⟨q, rfl, hq⟩
      · rintro ⟨r, s⟩ ⟨hs, qs, hr, hl, hq⟩
        dsimp only at hs hr
        subst hs
        subst hr
        rw [rng_len] at hl
        have el2 : (frs qs).length ≤ 16777216 := by simp only [frs, List.length_map]; omega
        simp -dsimp -implicitDefEqProofs [rdVar_eq, el2]
        refine Ends.step (is_factory_right_all (k := k) (N := qs.length - 1) hn (by omega) (by omega) hq) ?_
        rintro _ rfl
        simp -dsimp -implicitDefEqProofs
    · simp -dsimp -implicitDefEqProofs [rdVar_eq, hw]
      refine Ends.step (draw_all (k := k + 6) 32 (by decide) (by decide)) ?_
      rintro _ ⟨z, rfl, z0, z1⟩
      have er := rng_of (10 + z) (by omega) (by omega)
      have el : (rngD 0 (10 + z).toNat 1).length ≤ 16777216 := by rw [rng_len]; omega
      simp -dsimp -implicitDefEqProofs [rdVar_eq]
      refine Ends.step (pick_all (k := k + 5) _ (by simp) (by simp)) ?_
      rintro _ ⟨x1, hx1, rfl⟩
      have ht : ∃ t : Int, x1 = .int t ∧ 1 ≤ t ∧ t ≤ 1000 := by
        simp only [List.mem_cons, List.not_mem_nil, or_false] at hx1
        rcases hx1 with rfl | rfl | rfl | rfl <;> exact ⟨_, rfl, by decide, by decide⟩
      obtain ⟨t, rfl, t0, t1⟩ := ht
      simp -dsimp -implicitDefEqProofs [rdVar_eq, er, el]
      refine Ends.step (frs_inv Qs (rngD 0 (10 + z).toNat 1) ?_) ?_
      · intro x _
        simp -dsimp -implicitDefEqProofs [compStep, rdVar_eq]
        refine Ends.step (share_all (k := k + 4) hn t t0 t1) ?_
        rintro _ ⟨q, rfl, hq⟩
        simp -dsimp -implicitDefEqProofs
        exact ⟨q, rfl, hq⟩
      · rintro ⟨r, s⟩ ⟨hs, qs, hr, hl, hq⟩
        dsimp only at hs hr
        subst hs
        subst hr
        rw [rng_len] at hl
        have el2 : (frs qs).length ≤ 16777216 := by simp only [frs, List.length_map]; omega
        simp -dsimp -implicitDefEqProofs [rdVar_eq, el2]
        refine Ends.step (is_factory_right_all (k := k) (N := qs.length - 1) hn (by omega) (by omega) hq) ?_
        rintro _ rfl
        simp -dsimp -implicitDefEqProofs
end
theorem fin (ns : List Int) : ∃ n, (TP.call P (fun _ _ => .stuck) n 8 f_law [.scr ns]).All (fun r => r = .d (.bool true)) fun _ _ => False :=
  ⟨2 ^ LF + 10, (law_all (k := 0) (show Fuel _ from Nat.le_refl _) ns).h⟩
end K92
end

section
set_option linter.all false
set_option maxRecDepth 100000
set_option maxHeartbeats 0
namespace HD92
open PySem PySem.Spec PyProof.Rows L2
def top (i : Nat) : Stmt := PySem.Challenge.pw_coinblind_k92_whole_polynomials_and_thei.main.body.getD i (.Pass ⟨0, 0, 0, 0⟩)
def dOf (x : Str) (i : Nat) : He.DefD := ⟨(x, none), x, x, defArgs (top i), defBody (top i), defScope (top i), [], []⟩
def fn0 : List He.DefD := [dOf "is_integer" 2, dOf "is_between" 3, dOf "divisor_of" 7, dOf "is_fraction_value" 8, dOf "lowest" 9, dOf "plus" 10, dOf "times" 11, dOf "total" 12, dOf "is_less" 13, dOf "is_at_most" 14, dOf "is_bias" 23, dOf "need_bias" 24, dOf "is_polynomial_value" 28, dOf "need_polynomial" 29, dOf "is_chance" 30, dOf "is_factory_value" 31]
def fn1 : List He.DefD := [dOf "need_factory" 32, dOf "raw_value" 33, dOf "degree_of" 34, dOf "raw_numbers" 35, dOf "without_noughts" 36, dOf "raw_polynomial" 37, dOf "value_at" 38, dOf "numbers_of" 39, dOf "polynomial_of" 40, dOf "chance_at" 41, dOf "_law_deck" 43, dOf "_law_draw" 44, dOf "_law_pick" 45, dOf "_law_same" 46, dOf "_law_low" 47, dOf "_law_plus" 48]
def fn2 : List He.DefD := [dOf "_law_times" 49, dOf "_law_minus" 50, dOf "_law_choose" 51, dOf "_law_cut" 52, dOf "_law_value" 53, dOf "_law_numbers" 54, dOf "_law_polynomial" 55, dOf "_law_chance" 56, dOf "_law_any_fraction" 57, dOf "_law_share" 58, dOf "_law_bias" 59, dOf "_law_poly" 60, dOf "_law_is_poly_right" 61, dOf "_law_is_factory_right" 62, dOf "law" 63]
def fn : List He.DefD := fn0 ++ fn1 ++ fn2
def fa0 : List He.Fa := [.free "abs", .free "all", .free "any", .free "bool", .free "dict", .free "enumerate", .free "int", .free "isinstance", .free "len", .free "list", .free "max", .free "min", .free "range", .free "repr", .free "set", .free "sorted"]
def fa1 : List He.Fa := [.free "str", .free "sum", .free "tuple", .free "zip", .glo "is_integer", .glo "is_between", .glo "divisor_of", .glo "is_fraction_value", .glo "lowest", .glo "plus", .glo "times", .glo "total", .glo "is_less", .glo "is_at_most", .glo "is_bias", .glo "need_bias"]
def fa2 : List He.Fa := [.glo "is_polynomial_value", .glo "need_polynomial", .glo "is_chance", .glo "is_factory_value", .glo "need_factory", .glo "raw_value", .glo "degree_of", .glo "raw_numbers", .glo "without_noughts", .glo "raw_polynomial", .glo "value_at", .glo "numbers_of", .glo "polynomial_of", .glo "chance_at", .glo "_law_deck", .glo "_law_draw"]
def fa3 : List He.Fa := [.glo "_law_pick", .glo "_law_same", .glo "_law_low", .glo "_law_plus", .glo "_law_times", .glo "_law_minus", .glo "_law_choose", .glo "_law_cut", .glo "_law_value", .glo "_law_numbers", .glo "_law_polynomial", .glo "_law_chance", .glo "_law_any_fraction", .glo "_law_share", .glo "_law_bias", .glo "_law_poly"]
def fa4 : List He.Fa := [.glo "_law_is_poly_right", .glo "_law_is_factory_right", .glo "law"]
def fa : List He.Fa := fa0 ++ fa1 ++ fa2 ++ fa3 ++ fa4
def nm0 : List Str := ["is_integer", "is_between", "ZERO", "ONE", "divisor_of", "is_fraction_value", "lowest", "plus", "times", "total", "is_less", "is_at_most", "DrawError", "BadFraction", "BadNumber"]
def nm1 : List Str := ["BadBias", "BadPolynomial", "BadFactory", "is_bias", "need_bias", "MOST_DEGREE", "MOST_TURNS", "is_polynomial_value", "need_polynomial", "is_chance", "is_factory_value", "need_factory", "raw_value", "degree_of", "raw_numbers", "without_noughts"]
def nm2 : List Str := ["raw_polynomial", "value_at", "numbers_of", "polynomial_of", "chance_at", "_law_deck", "_law_draw", "_law_pick", "_law_same", "_law_low", "_law_plus", "_law_times", "_law_minus", "_law_choose", "_law_cut", "_law_value"]
def nm3 : List Str := ["_law_numbers", "_law_polynomial", "_law_chance", "_law_any_fraction", "_law_share", "_law_bias", "_law_poly", "_law_is_poly_right", "_law_is_factory_right"]
def nm : List Str := nm0 ++ nm1 ++ nm2 ++ nm3
def consts : List (Str × TP.D) := [("ZERO", (.tuple [(.int 0), (.int 1)])), ("ONE", (.tuple [(.int 1), (.int 1)])), ("MOST_DEGREE", (.int 8)), ("MOST_TURNS", (.int 40))]
abbrev R : PySem.W.OpenRow := PySem.W.OpenLaw.row PySem.Challenge.rw_coinblind_k92_whole_polynomials_and_thei
abbrev hk : PySem.W.Hook := TP.hookX 4 fa fn (TP.exB true consts)
def ob (s : PySem.W.SharedT) : He.AlD × Bool := TP.obX 4 fa fn (TP.exB true consts) (HandSHeadRun.getT s)
theorem ob_eq (s : PySem.W.SharedT) : ob s = hk.obs s.abs := TP.obX_eq (HandSHeadRun.getT_eq s)
theorem run (w : World) : HandSHeadRun.RunEqI R (PySem.W.view R.prog [0, 63]) hk ob 3000 nm w := by
  unfold HandSHeadRun.RunEqI
  kernel_rfl
end HD92
end

section
set_option linter.all false
set_option maxRecDepth 100000
set_option maxHeartbeats 0
namespace HD92
open PySem PySem.Spec PyProof.Rows L2 TP
def nmF : Nat → Str
  | 0 => "is_integer"
  | 1 => "is_between"
  | 2 => "divisor_of"
  | 3 => "is_fraction_value"
  | 4 => "lowest"
  | 5 => "plus"
  | 6 => "times"
  | 7 => "total"
  | 8 => "is_less"
  | 9 => "is_at_most"
  | 10 => "is_bias"
  | 11 => "need_bias"
  | 12 => "is_polynomial_value"
  | 13 => "need_polynomial"
  | 14 => "is_chance"
  | 15 => "is_factory_value"
  | 16 => "need_factory"
  | 17 => "raw_value"
  | 18 => "degree_of"
  | 19 => "raw_numbers"
  | 20 => "without_noughts"
  | 21 => "raw_polynomial"
  | 22 => "value_at"
  | 23 => "numbers_of"
  | 24 => "polynomial_of"
  | 25 => "chance_at"
  | 26 => "_law_deck"
  | 27 => "_law_draw"
  | 28 => "_law_pick"
  | 29 => "_law_same"
  | 30 => "_law_low"
  | 31 => "_law_plus"
  | 32 => "_law_times"
  | 33 => "_law_minus"
  | 34 => "_law_choose"
  | 35 => "_law_cut"
  | 36 => "_law_value"
  | 37 => "_law_numbers"
  | 38 => "_law_polynomial"
  | 39 => "_law_chance"
  | 40 => "_law_any_fraction"
  | 41 => "_law_share"
  | 42 => "_law_bias"
  | 43 => "_law_poly"
  | 44 => "_law_is_poly_right"
  | 45 => "_law_is_factory_right"
  | 46 => "law"
  | _ => ""
def prF : Nat → List Str
  | 0 => ["thing"]
  | 1 => ["thing", "least", "most"]
  | 2 => ["one", "other"]
  | 3 => ["thing"]
  | 4 => ["top", "bottom"]
  | 5 => ["one", "other"]
  | 6 => ["one", "other"]
  | 7 => ["some"]
  | 8 => ["one", "other"]
  | 9 => ["one", "other"]
  | 10 => ["thing"]
  | 11 => ["p"]
  | 12 => ["thing"]
  | 13 => ["poly"]
  | 14 => ["thing"]
  | 15 => ["thing"]
  | 16 => ["numbers"]
  | 17 => ["poly", "x"]
  | 18 => ["poly"]
  | 19 => ["poly", "n"]
  | 20 => ["numbers"]
  | 21 => ["numbers"]
  | 22 => ["poly", "x"]
  | 23 => ["poly", "n"]
  | 24 => ["numbers"]
  | 25 => ["numbers", "p"]
  | 26 => ["script", "mixed"]
  | 27 => ["deck", "many"]
  | 28 => ["deck", "some"]
  | 29 => ["told", "due"]
  | 30 => ["n", "d"]
  | 31 => ["a", "b"]
  | 32 => ["a", "b"]
  | 33 => ["a", "b"]
  | 34 => ["n"]
  | 35 => ["poly"]
  | 36 => ["poly", "x"]
  | 37 => ["poly", "n"]
  | 38 => ["numbers"]
  | 39 => ["numbers", "p"]
  | 40 => ["deck", "top", "bottom"]
  | 41 => ["deck", "bottom"]
  | 42 => ["deck", "bottom"]
  | 43 => ["deck", "degree", "top", "bottom"]
  | 44 => ["poly", "x", "n"]
  | 45 => ["deck", "numbers"]
  | 46 => ["script"]
  | _ => []
def tab : Tab := ⟨nmF, prF, fun x => consts.lookup x, fun f => decide (f < 47), true, "left", "mixed", "draws"⟩
theorem b0 : defB tab K92.d_is_integer K92.n_is_integer (prF 0) (defArgs (top 2)) (defScope (top 2)) (defBody (top 2)) = true := by decide +kernel
theorem b1 : defB tab K92.d_is_between K92.n_is_between (prF 1) (defArgs (top 3)) (defScope (top 3)) (defBody (top 3)) = true := by decide +kernel
theorem b2 : defB tab K92.d_divisor_of K92.n_divisor_of (prF 2) (defArgs (top 7)) (defScope (top 7)) (defBody (top 7)) = true := by decide +kernel
theorem b3 : defB tab K92.d_is_fraction_value K92.n_is_fraction_value (prF 3) (defArgs (top 8)) (defScope (top 8)) (defBody (top 8)) = true := by decide +kernel
theorem b4 : defB tab K92.d_lowest K92.n_lowest (prF 4) (defArgs (top 9)) (defScope (top 9)) (defBody (top 9)) = true := by decide +kernel
theorem b5 : defB tab K92.d_plus K92.n_plus (prF 5) (defArgs (top 10)) (defScope (top 10)) (defBody (top 10)) = true := by decide +kernel
theorem b6 : defB tab K92.d_times K92.n_times (prF 6) (defArgs (top 11)) (defScope (top 11)) (defBody (top 11)) = true := by decide +kernel
theorem b7 : defB tab K92.d_total K92.n_total (prF 7) (defArgs (top 12)) (defScope (top 12)) (defBody (top 12)) = true := by decide +kernel
theorem b8 : defB tab K92.d_is_less K92.n_is_less (prF 8) (defArgs (top 13)) (defScope (top 13)) (defBody (top 13)) = true := by decide +kernel
theorem b9 : defB tab K92.d_is_at_most K92.n_is_at_most (prF 9) (defArgs (top 14)) (defScope (top 14)) (defBody (top 14)) = true := by decide +kernel
theorem b10 : defB tab K92.d_is_bias K92.n_is_bias (prF 10) (defArgs (top 23)) (defScope (top 23)) (defBody (top 23)) = true := by decide +kernel
theorem b11 : defB tab K92.d_need_bias K92.n_need_bias (prF 11) (defArgs (top 24)) (defScope (top 24)) (defBody (top 24)) = true := by decide +kernel
theorem b12 : defB tab K92.d_is_polynomial_value K92.n_is_polynomial_value (prF 12) (defArgs (top 28)) (defScope (top 28)) (defBody (top 28)) = true := by decide +kernel
theorem b13 : defB tab K92.d_need_polynomial K92.n_need_polynomial (prF 13) (defArgs (top 29)) (defScope (top 29)) (defBody (top 29)) = true := by decide +kernel
theorem b14 : defB tab K92.d_is_chance K92.n_is_chance (prF 14) (defArgs (top 30)) (defScope (top 30)) (defBody (top 30)) = true := by decide +kernel
theorem b15 : defB tab K92.d_is_factory_value K92.n_is_factory_value (prF 15) (defArgs (top 31)) (defScope (top 31)) (defBody (top 31)) = true := by decide +kernel
theorem b16 : defB tab K92.d_need_factory K92.n_need_factory (prF 16) (defArgs (top 32)) (defScope (top 32)) (defBody (top 32)) = true := by decide +kernel
theorem b17 : defB tab K92.d_raw_value K92.n_raw_value (prF 17) (defArgs (top 33)) (defScope (top 33)) (defBody (top 33)) = true := by decide +kernel
theorem b18 : defB tab K92.d_degree_of K92.n_degree_of (prF 18) (defArgs (top 34)) (defScope (top 34)) (defBody (top 34)) = true := by decide +kernel
theorem b19 : defB tab K92.d_raw_numbers K92.n_raw_numbers (prF 19) (defArgs (top 35)) (defScope (top 35)) (defBody (top 35)) = true := by decide +kernel
theorem b20 : defB tab K92.d_without_noughts K92.n_without_noughts (prF 20) (defArgs (top 36)) (defScope (top 36)) (defBody (top 36)) = true := by decide +kernel
theorem b21 : defB tab K92.d_raw_polynomial K92.n_raw_polynomial (prF 21) (defArgs (top 37)) (defScope (top 37)) (defBody (top 37)) = true := by decide +kernel
theorem b22 : defB tab K92.d_value_at K92.n_value_at (prF 22) (defArgs (top 38)) (defScope (top 38)) (defBody (top 38)) = true := by decide +kernel
theorem b23 : defB tab K92.d_numbers_of K92.n_numbers_of (prF 23) (defArgs (top 39)) (defScope (top 39)) (defBody (top 39)) = true := by decide +kernel
theorem b24 : defB tab K92.d_polynomial_of K92.n_polynomial_of (prF 24) (defArgs (top 40)) (defScope (top 40)) (defBody (top 40)) = true := by decide +kernel
theorem b25 : defB tab K92.d_chance_at K92.n_chance_at (prF 25) (defArgs (top 41)) (defScope (top 41)) (defBody (top 41)) = true := by decide +kernel
theorem b26 : defB tab K92.d__law_deck K92.n__law_deck (prF 26) (defArgs (top 43)) (defScope (top 43)) (defBody (top 43)) = true := by decide +kernel
theorem b27 : defB tab K92.d__law_draw K92.n__law_draw (prF 27) (defArgs (top 44)) (defScope (top 44)) (defBody (top 44)) = true := by decide +kernel
theorem b28 : defB tab K92.d__law_pick K92.n__law_pick (prF 28) (defArgs (top 45)) (defScope (top 45)) (defBody (top 45)) = true := by decide +kernel
theorem b29 : defB tab K92.d__law_same K92.n__law_same (prF 29) (defArgs (top 46)) (defScope (top 46)) (defBody (top 46)) = true := by decide +kernel
theorem b30 : defB tab K92.d__law_low K92.n__law_low (prF 30) (defArgs (top 47)) (defScope (top 47)) (defBody (top 47)) = true := by decide +kernel
theorem b31 : defB tab K92.d__law_plus K92.n__law_plus (prF 31) (defArgs (top 48)) (defScope (top 48)) (defBody (top 48)) = true := by decide +kernel
theorem b32 : defB tab K92.d__law_times K92.n__law_times (prF 32) (defArgs (top 49)) (defScope (top 49)) (defBody (top 49)) = true := by decide +kernel
theorem b33 : defB tab K92.d__law_minus K92.n__law_minus (prF 33) (defArgs (top 50)) (defScope (top 50)) (defBody (top 50)) = true := by decide +kernel
theorem b34 : defB tab K92.d__law_choose K92.n__law_choose (prF 34) (defArgs (top 51)) (defScope (top 51)) (defBody (top 51)) = true := by decide +kernel
theorem b35 : defB tab K92.d__law_cut K92.n__law_cut (prF 35) (defArgs (top 52)) (defScope (top 52)) (defBody (top 52)) = true := by decide +kernel
theorem b36 : defB tab K92.d__law_value K92.n__law_value (prF 36) (defArgs (top 53)) (defScope (top 53)) (defBody (top 53)) = true := by decide +kernel
theorem b37 : defB tab K92.d__law_numbers K92.n__law_numbers (prF 37) (defArgs (top 54)) (defScope (top 54)) (defBody (top 54)) = true := by decide +kernel
theorem b38 : defB tab K92.d__law_polynomial K92.n__law_polynomial (prF 38) (defArgs (top 55)) (defScope (top 55)) (defBody (top 55)) = true := by decide +kernel
theorem b39 : defB tab K92.d__law_chance K92.n__law_chance (prF 39) (defArgs (top 56)) (defScope (top 56)) (defBody (top 56)) = true := by decide +kernel
theorem b40 : defB tab K92.d__law_any_fraction K92.n__law_any_fraction (prF 40) (defArgs (top 57)) (defScope (top 57)) (defBody (top 57)) = true := by decide +kernel
theorem b41 : defB tab K92.d__law_share K92.n__law_share (prF 41) (defArgs (top 58)) (defScope (top 58)) (defBody (top 58)) = true := by decide +kernel
theorem b42 : defB tab K92.d__law_bias K92.n__law_bias (prF 42) (defArgs (top 59)) (defScope (top 59)) (defBody (top 59)) = true := by decide +kernel
theorem b43 : defB tab K92.d__law_poly K92.n__law_poly (prF 43) (defArgs (top 60)) (defScope (top 60)) (defBody (top 60)) = true := by decide +kernel
theorem b44 : defB tab K92.d__law_is_poly_right K92.n__law_is_poly_right (prF 44) (defArgs (top 61)) (defScope (top 61)) (defBody (top 61)) = true := by decide +kernel
theorem b45 : defB tab K92.d__law_is_factory_right K92.n__law_is_factory_right (prF 45) (defArgs (top 62)) (defScope (top 62)) (defBody (top 62)) = true := by decide +kernel
theorem b46 : defB tab K92.d_law K92.n_law (prF 46) (defArgs (top 63)) (defScope (top 63)) (defBody (top 63)) = true := by decide +kernel
section
variable {pr : Program} {w : World} {K : Frag} {h base : Heap} {mg : Str → Option Value}
theorem defs_ok (X : K.In h) (G : h.Ns mainGlobals mg) (c : He.SaysD fa fn K) : ∀ (f : Nat) (d : Def), tab.has f = true → K92.P f = some d → ∃ fa fd qual params body scope N, mg (tab.nm f) = some (.ref fa) ∧ FunD K (tab.nm f) qual params body scope [] [] fa fd ∧ defB tab d N (tab.pr f) params scope body = true
  | 0, d, _, e => by
    cases (show some K92.d_is_integer = some d from e)
    obtain ⟨fd, F⟩ := c.def_ 0 (d := dOf "is_integer" 2) rfl
    exact ⟨_, fd, _, _, _, _, _, He.glo_ok X G (c.fact 20 (f := .glo "is_integer") rfl), F, b0⟩
  | 1, d, _, e => by
    cases (show some K92.d_is_between = some d from e)
    obtain ⟨fd, F⟩ := c.def_ 1 (d := dOf "is_between" 3) rfl
    exact ⟨_, fd, _, _, _, _, _, He.glo_ok X G (c.fact 21 (f := .glo "is_between") rfl), F, b1⟩
  | 2, d, _, e => by
    cases (show some K92.d_divisor_of = some d from e)
    obtain ⟨fd, F⟩ := c.def_ 2 (d := dOf "divisor_of" 7) rfl
    exact ⟨_, fd, _, _, _, _, _, He.glo_ok X G (c.fact 22 (f := .glo "divisor_of") rfl), F, b2⟩
  | 3, d, _, e => by
    cases (show some K92.d_is_fraction_value = some d from e)
    obtain ⟨fd, F⟩ := c.def_ 3 (d := dOf "is_fraction_value" 8) rfl
    exact ⟨_, fd, _, _, _, _, _, He.glo_ok X G (c.fact 23 (f := .glo "is_fraction_value") rfl), F, b3⟩
  | 4, d, _, e => by
    cases (show some K92.d_lowest = some d from e)
    obtain ⟨fd, F⟩ := c.def_ 4 (d := dOf "lowest" 9) rfl
    exact ⟨_, fd, _, _, _, _, _, He.glo_ok X G (c.fact 24 (f := .glo "lowest") rfl), F, b4⟩
  | 5, d, _, e => by
    cases (show some K92.d_plus = some d from e)
    obtain ⟨fd, F⟩ := c.def_ 5 (d := dOf "plus" 10) rfl
    exact ⟨_, fd, _, _, _, _, _, He.glo_ok X G (c.fact 25 (f := .glo "plus") rfl), F, b5⟩
  | 6, d, _, e => by
    cases (show some K92.d_times = some d from e)
    obtain ⟨fd, F⟩ := c.def_ 6 (d := dOf "times" 11) rfl
    exact ⟨_, fd, _, _, _, _, _, He.glo_ok X G (c.fact 26 (f := .glo "times") rfl), F, b6⟩
  | 7, d, _, e => by
    cases (show some K92.d_total = some d from e)
    obtain ⟨fd, F⟩ := c.def_ 7 (d := dOf "total" 12) rfl
    exact ⟨_, fd, _, _, _, _, _, He.glo_ok X G (c.fact 27 (f := .glo "total") rfl), F, b7⟩
  | 8, d, _, e => by
    cases (show some K92.d_is_less = some d from e)
    obtain ⟨fd, F⟩ := c.def_ 8 (d := dOf "is_less" 13) rfl
    exact ⟨_, fd, _, _, _, _, _, He.glo_ok X G (c.fact 28 (f := .glo "is_less") rfl), F, b8⟩
  | 9, d, _, e => by
    cases (show some K92.d_is_at_most = some d from e)
    obtain ⟨fd, F⟩ := c.def_ 9 (d := dOf "is_at_most" 14) rfl
    exact ⟨_, fd, _, _, _, _, _, He.glo_ok X G (c.fact 29 (f := .glo "is_at_most") rfl), F, b9⟩
  | 10, d, _, e => by
    cases (show some K92.d_is_bias = some d from e)
    obtain ⟨fd, F⟩ := c.def_ 10 (d := dOf "is_bias" 23) rfl
    exact ⟨_, fd, _, _, _, _, _, He.glo_ok X G (c.fact 30 (f := .glo "is_bias") rfl), F, b10⟩
  | 11, d, _, e => by
    cases (show some K92.d_need_bias = some d from e)
    obtain ⟨fd, F⟩ := c.def_ 11 (d := dOf "need_bias" 24) rfl
    exact ⟨_, fd, _, _, _, _, _, He.glo_ok X G (c.fact 31 (f := .glo "need_bias") rfl), F, b11⟩
  | 12, d, _, e => by
    cases (show some K92.d_is_polynomial_value = some d from e)
    obtain ⟨fd, F⟩ := c.def_ 12 (d := dOf "is_polynomial_value" 28) rfl
    exact ⟨_, fd, _, _, _, _, _, He.glo_ok X G (c.fact 32 (f := .glo "is_polynomial_value") rfl), F, b12⟩
  | 13, d, _, e => by
    cases (show some K92.d_need_polynomial = some d from e)
    obtain ⟨fd, F⟩ := c.def_ 13 (d := dOf "need_polynomial" 29) rfl
    exact ⟨_, fd, _, _, _, _, _, He.glo_ok X G (c.fact 33 (f := .glo "need_polynomial") rfl), F, b13⟩
  | 14, d, _, e => by
    cases (show some K92.d_is_chance = some d from e)
    obtain ⟨fd, F⟩ := c.def_ 14 (d := dOf "is_chance" 30) rfl
    exact ⟨_, fd, _, _, _, _, _, He.glo_ok X G (c.fact 34 (f := .glo "is_chance") rfl), F, b14⟩
  | 15, d, _, e => by
    cases (show some K92.d_is_factory_value = some d from e)
    obtain ⟨fd, F⟩ := c.def_ 15 (d := dOf "is_factory_value" 31) rfl
    exact ⟨_, fd, _, _, _, _, _, He.glo_ok X G (c.fact 35 (f := .glo "is_factory_value") rfl), F, b15⟩
  | 16, d, _, e => by
    cases (show some K92.d_need_factory = some d from e)
    obtain ⟨fd, F⟩ := c.def_ 16 (d := dOf "need_factory" 32) rfl
    exact ⟨_, fd, _, _, _, _, _, He.glo_ok X G (c.fact 36 (f := .glo "need_factory") rfl), F, b16⟩
  | 17, d, _, e => by
    cases (show some K92.d_raw_value = some d from e)
    obtain ⟨fd, F⟩ := c.def_ 17 (d := dOf "raw_value" 33) rfl
    exact ⟨_, fd, _, _, _, _, _, He.glo_ok X G (c.fact 37 (f := .glo "raw_value") rfl), F, b17⟩
  | 18, d, _, e => by
    cases (show some K92.d_degree_of = some d from e)
    obtain ⟨fd, F⟩ := c.def_ 18 (d := dOf "degree_of" 34) rfl
    exact ⟨_, fd, _, _, _, _, _, He.glo_ok X G (c.fact 38 (f := .glo "degree_of") rfl), F, b18⟩
  | 19, d, _, e => by
    cases (show some K92.d_raw_numbers = some d from e)
    obtain ⟨fd, F⟩ := c.def_ 19 (d := dOf "raw_numbers" 35) rfl
    exact ⟨_, fd, _, _, _, _, _, He.glo_ok X G (c.fact 39 (f := .glo "raw_numbers") rfl), F, b19⟩
  | 20, d, _, e => by
    cases (show some K92.d_without_noughts = some d from e)
    obtain ⟨fd, F⟩ := c.def_ 20 (d := dOf "without_noughts" 36) rfl
    exact ⟨_, fd, _, _, _, _, _, He.glo_ok X G (c.fact 40 (f := .glo "without_noughts") rfl), F, b20⟩
  | 21, d, _, e => by
    cases (show some K92.d_raw_polynomial = some d from e)
    obtain ⟨fd, F⟩ := c.def_ 21 (d := dOf "raw_polynomial" 37) rfl
    exact ⟨_, fd, _, _, _, _, _, He.glo_ok X G (c.fact 41 (f := .glo "raw_polynomial") rfl), F, b21⟩
  | 22, d, _, e => by
    cases (show some K92.d_value_at = some d from e)
    obtain ⟨fd, F⟩ := c.def_ 22 (d := dOf "value_at" 38) rfl
    exact ⟨_, fd, _, _, _, _, _, He.glo_ok X G (c.fact 42 (f := .glo "value_at") rfl), F, b22⟩
  | 23, d, _, e => by
    cases (show some K92.d_numbers_of = some d from e)
    obtain ⟨fd, F⟩ := c.def_ 23 (d := dOf "numbers_of" 39) rfl
    exact ⟨_, fd, _, _, _, _, _, He.glo_ok X G (c.fact 43 (f := .glo "numbers_of") rfl), F, b23⟩
  | 24, d, _, e => by
    cases (show some K92.d_polynomial_of = some d from e)
    obtain ⟨fd, F⟩ := c.def_ 24 (d := dOf "polynomial_of" 40) rfl
    exact ⟨_, fd, _, _, _, _, _, He.glo_ok X G (c.fact 44 (f := .glo "polynomial_of") rfl), F, b24⟩
  | 25, d, _, e => by
    cases (show some K92.d_chance_at = some d from e)
    obtain ⟨fd, F⟩ := c.def_ 25 (d := dOf "chance_at" 41) rfl
    exact ⟨_, fd, _, _, _, _, _, He.glo_ok X G (c.fact 45 (f := .glo "chance_at") rfl), F, b25⟩
  | 26, d, _, e => by
    cases (show some K92.d__law_deck = some d from e)
    obtain ⟨fd, F⟩ := c.def_ 26 (d := dOf "_law_deck" 43) rfl
    exact ⟨_, fd, _, _, _, _, _, He.glo_ok X G (c.fact 46 (f := .glo "_law_deck") rfl), F, b26⟩
  | 27, d, _, e => by
    cases (show some K92.d__law_draw = some d from e)
    obtain ⟨fd, F⟩ := c.def_ 27 (d := dOf "_law_draw" 44) rfl
    exact ⟨_, fd, _, _, _, _, _, He.glo_ok X G (c.fact 47 (f := .glo "_law_draw") rfl), F, b27⟩
  | 28, d, _, e => by
    cases (show some K92.d__law_pick = some d from e)
    obtain ⟨fd, F⟩ := c.def_ 28 (d := dOf "_law_pick" 45) rfl
    exact ⟨_, fd, _, _, _, _, _, He.glo_ok X G (c.fact 48 (f := .glo "_law_pick") rfl), F, b28⟩
  | 29, d, _, e => by
    cases (show some K92.d__law_same = some d from e)
    obtain ⟨fd, F⟩ := c.def_ 29 (d := dOf "_law_same" 46) rfl
    exact ⟨_, fd, _, _, _, _, _, He.glo_ok X G (c.fact 49 (f := .glo "_law_same") rfl), F, b29⟩
  | 30, d, _, e => by
    cases (show some K92.d__law_low = some d from e)
    obtain ⟨fd, F⟩ := c.def_ 30 (d := dOf "_law_low" 47) rfl
    exact ⟨_, fd, _, _, _, _, _, He.glo_ok X G (c.fact 50 (f := .glo "_law_low") rfl), F, b30⟩
  | 31, d, _, e => by
    cases (show some K92.d__law_plus = some d from e)
    obtain ⟨fd, F⟩ := c.def_ 31 (d := dOf "_law_plus" 48) rfl
    exact ⟨_, fd, _, _, _, _, _, He.glo_ok X G (c.fact 51 (f := .glo "_law_plus") rfl), F, b31⟩
  | 32, d, _, e => by
    cases (show some K92.d__law_times = some d from e)
    obtain ⟨fd, F⟩ := c.def_ 32 (d := dOf "_law_times" 49) rfl
    exact ⟨_, fd, _, _, _, _, _, He.glo_ok X G (c.fact 52 (f := .glo "_law_times") rfl), F, b32⟩
  | 33, d, _, e => by
    cases (show some K92.d__law_minus = some d from e)
    obtain ⟨fd, F⟩ := c.def_ 33 (d := dOf "_law_minus" 50) rfl
    exact ⟨_, fd, _, _, _, _, _, He.glo_ok X G (c.fact 53 (f := .glo "_law_minus") rfl), F, b33⟩
  | 34, d, _, e => by
    cases (show some K92.d__law_choose = some d from e)
    obtain ⟨fd, F⟩ := c.def_ 34 (d := dOf "_law_choose" 51) rfl
    exact ⟨_, fd, _, _, _, _, _, He.glo_ok X G (c.fact 54 (f := .glo "_law_choose") rfl), F, b34⟩
  | 35, d, _, e => by
    cases (show some K92.d__law_cut = some d from e)
    obtain ⟨fd, F⟩ := c.def_ 35 (d := dOf "_law_cut" 52) rfl
    exact ⟨_, fd, _, _, _, _, _, He.glo_ok X G (c.fact 55 (f := .glo "_law_cut") rfl), F, b35⟩
  | 36, d, _, e => by
    cases (show some K92.d__law_value = some d from e)
    obtain ⟨fd, F⟩ := c.def_ 36 (d := dOf "_law_value" 53) rfl
    exact ⟨_, fd, _, _, _, _, _, He.glo_ok X G (c.fact 56 (f := .glo "_law_value") rfl), F, b36⟩
  | 37, d, _, e => by
    cases (show some K92.d__law_numbers = some d from e)
    obtain ⟨fd, F⟩ := c.def_ 37 (d := dOf "_law_numbers" 54) rfl
    exact ⟨_, fd, _, _, _, _, _, He.glo_ok X G (c.fact 57 (f := .glo "_law_numbers") rfl), F, b37⟩
  | 38, d, _, e => by
    cases (show some K92.d__law_polynomial = some d from e)
    obtain ⟨fd, F⟩ := c.def_ 38 (d := dOf "_law_polynomial" 55) rfl
    exact ⟨_, fd, _, _, _, _, _, He.glo_ok X G (c.fact 58 (f := .glo "_law_polynomial") rfl), F, b38⟩
  | 39, d, _, e => by
    cases (show some K92.d__law_chance = some d from e)
    obtain ⟨fd, F⟩ := c.def_ 39 (d := dOf "_law_chance" 56) rfl
    exact ⟨_, fd, _, _, _, _, _, He.glo_ok X G (c.fact 59 (f := .glo "_law_chance") rfl), F, b39⟩
  | 40, d, _, e => by
    cases (show some K92.d__law_any_fraction = some d from e)
    obtain ⟨fd, F⟩ := c.def_ 40 (d := dOf "_law_any_fraction" 57) rfl
    exact ⟨_, fd, _, _, _, _, _, He.glo_ok X G (c.fact 60 (f := .glo "_law_any_fraction") rfl), F, b40⟩
  | 41, d, _, e => by
    cases (show some K92.d__law_share = some d from e)
    obtain ⟨fd, F⟩ := c.def_ 41 (d := dOf "_law_share" 58) rfl
    exact ⟨_, fd, _, _, _, _, _, He.glo_ok X G (c.fact 61 (f := .glo "_law_share") rfl), F, b41⟩
  | 42, d, _, e => by
    cases (show some K92.d__law_bias = some d from e)
    obtain ⟨fd, F⟩ := c.def_ 42 (d := dOf "_law_bias" 59) rfl
    exact ⟨_, fd, _, _, _, _, _, He.glo_ok X G (c.fact 62 (f := .glo "_law_bias") rfl), F, b42⟩
  | 43, d, _, e => by
    cases (show some K92.d__law_poly = some d from e)
    obtain ⟨fd, F⟩ := c.def_ 43 (d := dOf "_law_poly" 60) rfl
    exact ⟨_, fd, _, _, _, _, _, He.glo_ok X G (c.fact 63 (f := .glo "_law_poly") rfl), F, b43⟩
  | 44, d, _, e => by
    cases (show some K92.d__law_is_poly_right = some d from e)
    obtain ⟨fd, F⟩ := c.def_ 44 (d := dOf "_law_is_poly_right" 61) rfl
    exact ⟨_, fd, _, _, _, _, _, He.glo_ok X G (c.fact 64 (f := .glo "_law_is_poly_right") rfl), F, b44⟩
  | 45, d, _, e => by
    cases (show some K92.d__law_is_factory_right = some d from e)
    obtain ⟨fd, F⟩ := c.def_ 45 (d := dOf "_law_is_factory_right" 62) rfl
    exact ⟨_, fd, _, _, _, _, _, He.glo_ok X G (c.fact 65 (f := .glo "_law_is_factory_right") rfl), F, b45⟩
  | 46, d, _, e => by
    cases (show some K92.d_law = some d from e)
    obtain ⟨fd, F⟩ := c.def_ 46 (d := dOf "law" 63) rfl
    exact ⟨_, fd, _, _, _, _, _, He.glo_ok X G (c.fact 66 (f := .glo "law") rfl), F, b46⟩
  | n + 47, d, hh, _ => by
    have h1 : n + 47 < 47 := of_decide_eq_true (show decide (n + 47 < 47) = true from hh)
    omega
theorem prims_no : ∀ f : Nat, tab.has f = true → K92.P f = none → False
  | 0, _, e => by cases (show some K92.d_is_integer = none from e)
  | 1, _, e => by cases (show some K92.d_is_between = none from e)
  | 2, _, e => by cases (show some K92.d_divisor_of = none from e)
  | 3, _, e => by cases (show some K92.d_is_fraction_value = none from e)
  | 4, _, e => by cases (show some K92.d_lowest = none from e)
  | 5, _, e => by cases (show some K92.d_plus = none from e)
  | 6, _, e => by cases (show some K92.d_times = none from e)
  | 7, _, e => by cases (show some K92.d_total = none from e)
  | 8, _, e => by cases (show some K92.d_is_less = none from e)
  | 9, _, e => by cases (show some K92.d_is_at_most = none from e)
  | 10, _, e => by cases (show some K92.d_is_bias = none from e)
  | 11, _, e => by cases (show some K92.d_need_bias = none from e)
  | 12, _, e => by cases (show some K92.d_is_polynomial_value = none from e)
  | 13, _, e => by cases (show some K92.d_need_polynomial = none from e)
  | 14, _, e => by cases (show some K92.d_is_chance = none from e)
  | 15, _, e => by cases (show some K92.d_is_factory_value = none from e)
  | 16, _, e => by cases (show some K92.d_need_factory = none from e)
  | 17, _, e => by cases (show some K92.d_raw_value = none from e)
  | 18, _, e => by cases (show some K92.d_degree_of = none from e)
  | 19, _, e => by cases (show some K92.d_raw_numbers = none from e)
  | 20, _, e => by cases (show some K92.d_without_noughts = none from e)
  | 21, _, e => by cases (show some K92.d_raw_polynomial = none from e)
  | 22, _, e => by cases (show some K92.d_value_at = none from e)
  | 23, _, e => by cases (show some K92.d_numbers_of = none from e)
  | 24, _, e => by cases (show some K92.d_polynomial_of = none from e)
  | 25, _, e => by cases (show some K92.d_chance_at = none from e)
  | 26, _, e => by cases (show some K92.d__law_deck = none from e)
  | 27, _, e => by cases (show some K92.d__law_draw = none from e)
  | 28, _, e => by cases (show some K92.d__law_pick = none from e)
  | 29, _, e => by cases (show some K92.d__law_same = none from e)
  | 30, _, e => by cases (show some K92.d__law_low = none from e)
  | 31, _, e => by cases (show some K92.d__law_plus = none from e)
  | 32, _, e => by cases (show some K92.d__law_times = none from e)
  | 33, _, e => by cases (show some K92.d__law_minus = none from e)
  | 34, _, e => by cases (show some K92.d__law_choose = none from e)
  | 35, _, e => by cases (show some K92.d__law_cut = none from e)
  | 36, _, e => by cases (show some K92.d__law_value = none from e)
  | 37, _, e => by cases (show some K92.d__law_numbers = none from e)
  | 38, _, e => by cases (show some K92.d__law_polynomial = none from e)
  | 39, _, e => by cases (show some K92.d__law_chance = none from e)
  | 40, _, e => by cases (show some K92.d__law_any_fraction = none from e)
  | 41, _, e => by cases (show some K92.d__law_share = none from e)
  | 42, _, e => by cases (show some K92.d__law_bias = none from e)
  | 43, _, e => by cases (show some K92.d__law_poly = none from e)
  | 44, _, e => by cases (show some K92.d__law_is_poly_right = none from e)
  | 45, _, e => by cases (show some K92.d__law_is_factory_right = none from e)
  | 46, _, e => by cases (show some K92.d_law = none from e)
  | n + 47, hh, _ => by
    have h1 : n + 47 < 47 := of_decide_eq_true (show decide (n + 47 < 47) = true from hh)
    omega
theorem free_all (X : K.In h) (G : h.Ns mainGlobals mg) (c : He.SaysD fa fn K) : ∀ x ∈ biNames, mg x = none := by
  intro x hx
  unfold biNames at hx
  simp only [List.mem_cons, List.not_mem_nil, or_false] at hx
  rcases hx with rfl | rfl | rfl | rfl | rfl | rfl | rfl | rfl | rfl | rfl | rfl | rfl | rfl | rfl | rfl | rfl | rfl | rfl | rfl
  · exact He.free_ok X G (c.fact 0 (f := .free "abs") rfl)
  · exact He.free_ok X G (c.fact 10 (f := .free "max") rfl)
  · exact He.free_ok X G (c.fact 11 (f := .free "min") rfl)
  · exact He.free_ok X G (c.fact 6 (f := .free "int") rfl)
  · exact He.free_ok X G (c.fact 8 (f := .free "len") rfl)
  · exact He.free_ok X G (c.fact 9 (f := .free "list") rfl)
  · exact He.free_ok X G (c.fact 18 (f := .free "tuple") rfl)
  · exact He.free_ok X G (c.fact 17 (f := .free "sum") rfl)
  · exact He.free_ok X G (c.fact 1 (f := .free "all") rfl)
  · exact He.free_ok X G (c.fact 2 (f := .free "any") rfl)
  · exact He.free_ok X G (c.fact 13 (f := .free "repr") rfl)
  · exact He.free_ok X G (c.fact 16 (f := .free "str") rfl)
  · exact He.free_ok X G (c.fact 15 (f := .free "sorted") rfl)
  · exact He.free_ok X G (c.fact 12 (f := .free "range") rfl)
  · exact He.free_ok X G (c.fact 19 (f := .free "zip") rfl)
  · exact He.free_ok X G (c.fact 5 (f := .free "enumerate") rfl)
  · exact He.free_ok X G (c.fact 7 (f := .free "isinstance") rfl)
  · exact He.free_ok X G (c.fact 3 (f := .free "bool") rfl)
  · exact He.free_ok X G (c.fact 4 (f := .free "dict") rfl)
def fx (K : Frag) : Fx := ⟨K, dkN "left" "mixed" "draws", fun _ => .none, fun _ => ""⟩
theorem prg (X : K.In h) (G : h.Ns mainGlobals mg) (c : He.SaysD fa fn K) (ce : exB true consts K = true) : Prg (fx K) tab K92.P (fun _ _ => .stuck) pr w K mg base where
  hK := rfl
  mgb := free_all X G c
  comb := exB_comb X G ce
  keys := ⟨rfl, by decide +kernel, by decide +kernel, by decide +kernel⟩
  gl := exB_con X G ce
  defs := defs_ok X G c
  prims := fun f h1 h2 => (prims_no f h1 h2).elim
end
end HD92
open PySem PySem.W PySem.Calls PyProof.Rows
theorem PySem.Challenge.cw_coinblind_k92_whole_polynomials_and_thei_holds : PySem.Challenge.rw_coinblind_k92_whole_polynomials_and_thei.Holds := by
  w_on; o_law
  refine HandSHeadRun.head_imp (r := OpenLaw.row PySem.Challenge.rw_coinblind_k92_whole_polynomials_and_thei) (q := view (OpenLaw.row PySem.Challenge.rw_coinblind_k92_whole_polynomials_and_thei).prog [0, 63]) (H := HD92.hk) (ob := HD92.ob) (M := 3000) (loose := HD92.nm) (d := HandSHeadRun.topDef (OpenLaw.row PySem.Challenge.rw_coinblind_k92_whole_polynomials_and_thei).prog 63) (kwd := []) HD92.ob_eq
    HD92.run (by kernel_rfl) (by kernel_rfl) (by kernel_rfl) (by rfl) (by first | assumption | decide +kernel) (by decide +kernel) ⟨rfl, rfl, rfl, rfl, rfl, by decide +kernel⟩ ?hw ?hc
  case hw => w_witness2
  case hc =>
    refine TP.walk_ofG (l := PySem.Challenge.rw_coinblind_k92_whole_polynomials_and_thei) (n := 63) (k := 8) (x := "script") (CX := fun w => L2.CX PySem.Challenge.rw_coinblind_k92_whole_polynomials_and_thei.prog w) rfl (by decide) (by kernel_rfl) ⟨rfl, by decide, by decide⟩ ?F (fun w H s e s' z => TP.cx_false [] H s e s' z)
    intro w mg fa h Y G hmg0
    obtain ⟨K, KX, c, ce⟩ := Y
    have hmg : mg ("law" : PySem.Str) = some (.ref fa) := by
      have e : (HandSHeadRun.topDef (OpenLaw.row PySem.Challenge.rw_coinblind_k92_whole_polynomials_and_thei).prog 63).name = ("law" : PySem.Str) := by kernel_rfl
      rw [← e]
      exact hmg0
    obtain ⟨fd, F⟩ := c.def_ 46 (d := HD92.dOf "law" 63) rfl
    have e := hmg.symm.trans (He.glo_ok KX G (c.fact 66 (f := .glo "law") rfl))
    cases e
    have b := L2.FunD.bindsA (ps := ["script"]) F fun _ _ _ _ _ _ us hl => match us, hl with | [_], _ => rfl
    refine ⟨K, fd, TP.spEx fun n => TP.spOf (HD92.fx K) 1 (TP.call K92.P (fun _ _ => .stuck) n 8 K92.f_law), KX, fun s v => b s [v] rfl, fun H a ns hl _ hS => ?_, fun base hb hG => TP.FnG.ex fun n => ?_⟩
    · obtain ⟨n, hn⟩ := K92.fin ns
      exact ⟨n, TP.law_sp rfl hS hn⟩
    · have g := HD92.prg (pr := PySem.Challenge.rw_coinblind_k92_whole_polynomials_and_thei.prog) (w := w) (base := base) KX G c ce
      have q := (TP.def_fn (n := n) F HD92.b46 g.hK g.mgb g.comb g.keys g.gl (TP.prg_fn g n 7)).1
      have e2 : TP.call K92.P (fun _ _ => .stuck) n 8 K92.f_law = TP.run n (TP.call K92.P (fun _ _ => .stuck) n 7) K92.d_law := rfl
      rw [e2]
      exact q
end
